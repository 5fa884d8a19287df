import PyProof.Rows.All
import Wide.All
import OpenK.AllK
import Wide.FinOn
import HandS.ForMost
import HandS.ForExc
import HandS.Walk
import HandS.IsInst
import HandS.Deep
import HandS.Conv
import HandS.Style
import HandS.SortInts
import HandS.DictComp
import HandS.TupAny
import HandS.TupSets
import HandS.SortKw
import HandS.SetFor
import HandS.Gcd
import KE.KMathGC
import KE.SortData
import HandS.Wide
import HandS.Small
import HandS.IterVal
import PySem.Challenge.RW_orderyards_k18_whole_numbers_of_orders
set_option Elab.async false
set_option linter.all false
set_option maxRecDepth 100000
/-! DL1: plain data D, how it stands in the abstract heap: Rp (frozen), RO (owned to a depth), steps between heaps, a frame's slots. -/
namespace DL
open PySem PySem.Spec PyProof.Rows L2

/-- plain data; scr: the law's script -/
inductive D where
  | non | bl (b : Bool) | int (i : Int) | str (s : Str) | lst (xs : List D) | tup (xs : List D) | dic (kvs : List (Key × D)) | dit (kvs : List (List Key × D)) | scr (ns : List Int)

/-- an answer: a value, an own exception (its class by number, its argument), or nothing known -/
inductive R (α : Type) where
  | ok (a : α) | exc (c : Nat) (d : D) | bad

namespace R
def bind {α β : Type} (x : R α) (f : α → R β) : R β :=
  match x with
  | .ok a => f a
  | .exc c d => .exc c d
  | .bad => .bad
@[simp] theorem bind_ok {α β : Type} (a : α) (f : α → R β) : (R.ok a).bind f = f a := rfl
@[simp] theorem bind_bad {α β : Type} (f : α → R β) : (R.bad : R α).bind f = .bad := rfl
@[simp] theorem bind_exc {α β : Type} (c : Nat) (d : D) (f : α → R β) : (R.exc c d : R α).bind f = .exc c d := rfl
end R

/-! ### frozen data -/
section
variable (K : PySem.W.Frag) (F : Hp)
mutual
def Rp : D → V → Prop
  | .non, v => v = .non
  | .bl b, v => v = .bl b
  | .int i, v => v = .int i
  | .str s, v => v = .str s
  | .lst ds, v => ∃ a xs, v = .ref a ∧ F a = some (.lst xs) ∧ RpL ds xs
  | .tup ds, v => ∃ a xs, v = .ref a ∧ SqT K F a xs ∧ RpL ds xs
  | .dic kds, v => ∃ a kvs, v = .ref a ∧ F a = some (.dK kvs) ∧ RpK kds kvs
  | .dit kds, v => ∃ a kvs, v = .ref a ∧ F a = some (.dT kvs) ∧ RpT kds kvs
  | .scr ns, v => ∃ a, v = .ref a ∧ SqL K F a (ns.map V.int)
def RpL : List D → List V → Prop
  | [], xs => xs = []
  | d :: ds, xs => ∃ v vs, xs = v :: vs ∧ Rp d v ∧ RpL ds vs
def RpK : List (Key × D) → List (Key × V) → Prop
  | [], xs => xs = []
  | (k, d) :: ds, xs => ∃ v vs, xs = (k, v) :: vs ∧ Rp d v ∧ RpK ds vs
def RpT : List (List Key × D) → List (List Key × V) → Prop
  | [], xs => xs = []
  | (k, d) :: ds, xs => ∃ v vs, xs = (k, v) :: vs ∧ Rp d v ∧ RpT ds vs
end
end

theorem same_seqT {K : PySem.W.Frag} {H H' : Hp} {a : Addr} {xs : List V} (e : Same H H') (h : SqT K H a xs) : SqT K H' a xs := by
  rcases h with (h | ⟨o, h⟩) | h
  · exact .inl (.inl (e _ _ h))
  · exact .inl (.inr ⟨o, e _ _ h⟩)
  · exact .inr h

section
variable {K : PySem.W.Frag} {F F' : Hp}
mutual
theorem Rp.mono (s : Same F F') : ∀ {d : D} {v : V}, Rp K F d v → Rp K F' d v
  | .non, _, h => h
  | .bl _, _, h => h
  | .int _, _, h => h
  | .str _, _, h => h
  | .lst ds, _, h => let ⟨a, xs, e, q, r⟩ := h; ⟨a, xs, e, s _ _ q, RpL.mono s r⟩
  | .tup ds, _, h => let ⟨a, xs, e, q, r⟩ := h; ⟨a, xs, e, same_seqT s q, RpL.mono s r⟩
  | .dic ds, _, h => let ⟨a, xs, e, q, r⟩ := h; ⟨a, xs, e, s _ _ q, RpK.mono s r⟩
  | .dit ds, _, h => let ⟨a, xs, e, q, r⟩ := h; ⟨a, xs, e, s _ _ q, RpT.mono s r⟩
  | .scr ns, _, h => let ⟨a, e, q⟩ := h; ⟨a, e, s.seq q⟩
theorem RpL.mono (s : Same F F') : ∀ {ds : List D} {xs : List V}, RpL K F ds xs → RpL K F' ds xs
  | [], _, h => h
  | _ :: _, _, h => let ⟨v, vs, e, r, q⟩ := h; ⟨v, vs, e, Rp.mono s r, RpL.mono s q⟩
theorem RpK.mono (s : Same F F') : ∀ {ds : List (Key × D)} {xs : List (Key × V)}, RpK K F ds xs → RpK K F' ds xs
  | [], _, h => h
  | (_, _) :: _, _, h => let ⟨v, vs, e, r, q⟩ := h; ⟨v, vs, e, Rp.mono s r, RpK.mono s q⟩
theorem RpT.mono (s : Same F F') : ∀ {ds : List (List Key × D)} {xs : List (List Key × V)}, RpT K F ds xs → RpT K F' ds xs
  | [], _, h => h
  | (_, _) :: _, _, h => let ⟨v, vs, e, r, q⟩ := h; ⟨v, vs, e, Rp.mono s r, RpT.mono s q⟩
end

/-! lists of data, by places -/
theorem RpL.length : ∀ {ds : List D} {xs : List V}, RpL K F ds xs → ds.length = xs.length
  | [], _, h => by cases (show _ = _ from h); rfl
  | _ :: _, _, ⟨v, vs, e, _, q⟩ => by subst e; simp [RpL.length q]
theorem RpL.get : ∀ {ds : List D} {xs : List V}, RpL K F ds xs → ∀ {i : Nat} {d : D} {v : V}, ds[i]? = some d → xs[i]? = some v → Rp K F d v
  | [], _, _, i, d, v, h, _ => by simp at h
  | _ :: _, _, ⟨w, vs, e, r, q⟩, 0, d, v, h, h' => by subst e; simp at h h'; subst h; subst h'; exact r
  | _ :: _, _, ⟨w, vs, e, r, q⟩, i + 1, d, v, h, h' => by subst e; simp at h h'; exact RpL.get q h h'
theorem RpL.of : ∀ {ds : List D} {xs : List V}, ds.length = xs.length → (∀ (i : Nat) (d : D) (v : V), ds[i]? = some d → xs[i]? = some v → Rp K F d v) → RpL K F ds xs
  | [], xs, h, _ => by
    cases xs with
    | nil => exact rfl
    | cons _ _ => simp at h
  | d :: ds, xs, h, g => by
    cases xs with
    | nil => simp at h
    | cons v vs => exact ⟨v, vs, rfl, g 0 d v rfl rfl, RpL.of (by simpa using h) fun i d v h1 h2 => g (i + 1) d v (by simpa using h1) (by simpa using h2)⟩
theorem RpL.append : ∀ {ds es : List D} {xs ys : List V}, RpL K F ds xs → RpL K F es ys → RpL K F (ds ++ es) (xs ++ ys)
  | [], _, _, _, h, g => by cases (show _ = _ from h); exact g
  | _ :: _, _, _, _, ⟨v, vs, e, r, q⟩, g => by subst e; exact ⟨v, _, rfl, r, RpL.append q g⟩
theorem RpL.take : ∀ {ds : List D} {xs : List V} (n : Nat), RpL K F ds xs → RpL K F (ds.take n) (xs.take n)
  | _, _, 0, _ => rfl
  | [], _, n + 1, h => by cases (show _ = _ from h); exact rfl
  | _ :: _, _, n + 1, ⟨v, vs, e, r, q⟩ => by subst e; exact ⟨v, _, rfl, r, RpL.take n q⟩
theorem RpL.drop : ∀ {ds : List D} {xs : List V} (n : Nat), RpL K F ds xs → RpL K F (ds.drop n) (xs.drop n)
  | _, _, 0, h => h
  | [], _, n + 1, h => by cases (show _ = _ from h); exact rfl
  | _ :: _, _, n + 1, ⟨v, vs, e, r, q⟩ => by subst e; exact RpL.drop n q
theorem RpL.reverse {ds : List D} {xs : List V} (h : RpL K F ds xs) : RpL K F ds.reverse xs.reverse := by
  induction ds generalizing xs with
  | nil => cases (show _ = _ from h); exact rfl
  | cons d ds ih =>
    obtain ⟨v, vs, e, r, q⟩ := h
    subst e
    rw [List.reverse_cons, List.reverse_cons]
    exact (ih q).append ⟨v, [], rfl, r, rfl⟩
theorem RpL.one {d : D} {v : V} (h : Rp K F d v) : RpL K F [d] [v] := ⟨v, [], rfl, h, rfl⟩
theorem RpL.set : ∀ {ds : List D} {xs : List V} {d : D} {v : V} (i : Nat), RpL K F ds xs → Rp K F d v → RpL K F (ds.set i d) (xs.set i v)
  | [], _, _, _, _, h, _ => by cases (show _ = _ from h); exact rfl
  | _ :: _, _, _, _, 0, ⟨w, vs, e, r, q⟩, g => by subst e; exact ⟨_, _, rfl, g, q⟩
  | _ :: _, _, _, _, i + 1, ⟨w, vs, e, r, q⟩, g => by subst e; exact ⟨_, _, rfl, r, RpL.set i q g⟩
theorem RpL.eraseIdx : ∀ {ds : List D} {xs : List V} (i : Nat), RpL K F ds xs → RpL K F (ds.eraseIdx i) (xs.eraseIdx i)
  | [], _, _, h => by cases (show _ = _ from h); exact rfl
  | _ :: _, _, 0, ⟨w, vs, e, r, q⟩ => by subst e; exact q
  | _ :: _, _, i + 1, ⟨w, vs, e, r, q⟩ => by subst e; exact ⟨_, _, rfl, r, RpL.eraseIdx i q⟩
/-- ints stand as ints -/
theorem RpL.ints : ∀ {ns : List Int} {xs : List V}, RpL K F (ns.map D.int) xs → xs = ns.map V.int
  | [], _, h => h
  | n :: ns, _, ⟨v, vs, e, r, q⟩ => by subst e; rw [show v = V.int n from r, RpL.ints q]; rfl
theorem RpL.of_ints : ∀ (ns : List Int), RpL K F (ns.map D.int) (ns.map V.int)
  | [] => rfl
  | n :: ns => ⟨_, _, rfl, rfl, RpL.of_ints ns⟩
end

/-! ### data as PyData: what == sees -/
mutual
def toPy : D → PyData
  | .non => .none
  | .bl b => .bool b
  | .int i => .int i
  | .str s => .str s
  | .lst ds => .list (toPyL ds)
  | .tup ds => .tuple (toPyL ds)
  | .dic _ => .dict []
  | .dit _ => .dict []
  | .scr _ => .dict []
def toPyL : List D → List PyData
  | [] => []
  | d :: ds => toPy d :: toPyL ds
end
section
variable {K : PySem.W.Frag} {H : Hp}
mutual
theorem Rp.dp : ∀ {d : D} {v : V}, Rp K H d v → (toPy d).canLay0 = true → Dp K H v (toPy d)
  | .non, v, h, _ => by cases (show v = _ from h); exact .non
  | .bl b, v, h, _ => by cases (show v = _ from h); exact .bl b
  | .int i, v, h, _ => by cases (show v = _ from h); exact .int i
  | .str s, v, h, _ => by cases (show v = _ from h); exact .str s
  | .lst ds, v, ⟨a, xs, e, q, r⟩, c => by
    subst e
    exact .lst (.inl (.inl q)) (RpL.dp r (by simpa [toPy, PyData.canLay0] using c))
  | .tup ds, v, ⟨a, xs, e, q, r⟩, c => by
    subst e
    exact .tup q (RpL.dp r (by simpa [toPy, PyData.canLay0] using c))
  | .dic ds, v, _, c => by simp [toPy, PyData.canLay0] at c
  | .dit ds, v, _, c => by simp [toPy, PyData.canLay0] at c
  | .scr ds, v, _, c => by simp [toPy, PyData.canLay0] at c
theorem RpL.dp : ∀ {ds : List D} {xs : List V}, RpL K H ds xs → PyData.canLayAll0 (toPyL ds) = true → DpAll K H xs (toPyL ds)
  | [], xs, h, _ => by cases (show xs = _ from h); exact .nil
  | d :: ds, xs, ⟨v, vs, e, r, q⟩, c => by
    subst e
    have c' : (toPy d).canLay0 = true ∧ PyData.canLayAll0 (toPyL ds) = true := by simpa [toPyL, PyData.canLayAll0] using c
    exact .cons (Rp.dp r c'.1) (RpL.dp q c'.2)
end
end
end DL
namespace DL
open PySem PySem.Spec PyProof.Rows L2

/-- a set of addresses -/
abbrev AS := Addr → Prop
abbrev noA : AS := fun _ => False

/-! ### data owned to a depth -/
section
variable (K : PySem.W.Frag) (F H : Hp)
/-- owned to the depth n: what lists and dicts lie above depth n stand in H, not in F, each once, within S; what lies deeper is frozen -/
def RO : Nat → D → V → AS → Prop
  | 0, d, v, _ => Rp K F d v
  | n + 1, .lst ds, v, S => ∃ a xs, ∃ T : Nat → AS, v = .ref a ∧ H a = some (.lst xs) ∧ F a = none ∧ S a ∧ ds.length = xs.length ∧ (∀ i b, T i b → S b ∧ b ≠ a) ∧ (∀ i j b, T i b → T j b → i = j) ∧
      ∀ i d v, ds[i]? = some d → xs[i]? = some v → RO n d v (T i)
  | n + 1, .dic ds, v, S => ∃ a xs, ∃ T : Nat → AS, v = .ref a ∧ H a = some (.dK xs) ∧ F a = none ∧ S a ∧ ds.length = xs.length ∧ (∀ i b, T i b → S b ∧ b ≠ a) ∧ (∀ i j b, T i b → T j b → i = j) ∧
      ∀ i p q, ds[i]? = some p → xs[i]? = some q → p.1 = q.1 ∧ RO n p.2 q.2 (T i)
  | n + 1, .dit ds, v, S => ∃ a xs, ∃ T : Nat → AS, v = .ref a ∧ H a = some (.dT xs) ∧ F a = none ∧ S a ∧ ds.length = xs.length ∧ (∀ i b, T i b → S b ∧ b ≠ a) ∧ (∀ i j b, T i b → T j b → i = j) ∧
      ∀ i p q, ds[i]? = some p → xs[i]? = some q → p.1 = q.1 ∧ RO n p.2 q.2 (T i)
  | _ + 1, .non, v, _ => v = .non
  | _ + 1, .bl b, v, _ => v = .bl b
  | _ + 1, .int i, v, _ => v = .int i
  | _ + 1, .str s, v, _ => v = .str s
  | _ + 1, .tup ds, v, _ => Rp K F (.tup ds) v
  | _ + 1, .scr ns, v, _ => Rp K F (.scr ns) v
end

section
variable {K : PySem.W.Frag} {F F' H H' : Hp}
theorem RpK.of : ∀ {ds : List (Key × D)} {xs : List (Key × V)}, ds.length = xs.length → (∀ (i : Nat) (p : Key × D) (q : Key × V), ds[i]? = some p → xs[i]? = some q → p.1 = q.1 ∧ Rp K F p.2 q.2) → RpK K F ds xs
  | [], xs, h, _ => by
    cases xs with
    | nil => exact rfl
    | cons _ _ => simp at h
  | (k, d) :: ds, xs, h, g => by
    cases xs with
    | nil => simp at h
    | cons v vs =>
      obtain ⟨k', v⟩ := v
      obtain ⟨e, r⟩ := g 0 (k, d) (k', v) rfl rfl
      have e' : k = k' := e
      subst e'
      exact ⟨v, vs, rfl, r, RpK.of (by simpa using h) fun i d v h1 h2 => g (i + 1) d v (by simpa using h1) (by simpa using h2)⟩
theorem RpT.of : ∀ {ds : List (List Key × D)} {xs : List (List Key × V)}, ds.length = xs.length → (∀ (i : Nat) (p : List Key × D) (q : List Key × V), ds[i]? = some p → xs[i]? = some q → p.1 = q.1 ∧ Rp K F p.2 q.2) → RpT K F ds xs
  | [], xs, h, _ => by
    cases xs with
    | nil => exact rfl
    | cons _ _ => simp at h
  | (k, d) :: ds, xs, h, g => by
    cases xs with
    | nil => simp at h
    | cons v vs =>
      obtain ⟨k', v⟩ := v
      obtain ⟨e, r⟩ := g 0 (k, d) (k', v) rfl rfl
      have e' : k = k' := e
      subst e'
      exact ⟨v, vs, rfl, r, RpT.of (by simpa using h) fun i d v h1 h2 => g (i + 1) d v (by simpa using h1) (by simpa using h2)⟩
theorem RpK.length : ∀ {ds : List (Key × D)} {xs : List (Key × V)}, RpK K F ds xs → ds.length = xs.length
  | [], _, h => by cases (show _ = _ from h); rfl
  | (_, _) :: _, _, ⟨v, vs, e, _, q⟩ => by subst e; simp [RpK.length q]
theorem RpK.get : ∀ {ds : List (Key × D)} {xs : List (Key × V)}, RpK K F ds xs → ∀ {i : Nat} {p : Key × D} {q : Key × V}, ds[i]? = some p → xs[i]? = some q → p.1 = q.1 ∧ Rp K F p.2 q.2
  | [], _, _, i, d, v, h, _ => by simp at h
  | (_, _) :: _, _, ⟨w, vs, e, r, q⟩, 0, d, v, h, h' => by subst e; simp at h h'; subst h; subst h'; exact ⟨rfl, r⟩
  | (_, _) :: _, _, ⟨w, vs, e, r, q⟩, i + 1, d, v, h, h' => by subst e; simp at h h'; exact RpK.get q h h'
theorem RpT.length : ∀ {ds : List (List Key × D)} {xs : List (List Key × V)}, RpT K F ds xs → ds.length = xs.length
  | [], _, h => by cases (show _ = _ from h); rfl
  | (_, _) :: _, _, ⟨v, vs, e, _, q⟩ => by subst e; simp [RpT.length q]
theorem RpT.get : ∀ {ds : List (List Key × D)} {xs : List (List Key × V)}, RpT K F ds xs → ∀ {i : Nat} {p : List Key × D} {q : List Key × V}, ds[i]? = some p → xs[i]? = some q → p.1 = q.1 ∧ Rp K F p.2 q.2
  | [], _, _, i, d, v, h, _ => by simp at h
  | (_, _) :: _, _, ⟨w, vs, e, r, q⟩, 0, d, v, h, h' => by subst e; simp at h h'; subst h; subst h'; exact ⟨rfl, r⟩
  | (_, _) :: _, _, ⟨w, vs, e, r, q⟩, i + 1, d, v, h, h' => by subst e; simp at h h'; exact RpT.get q h h'

/-- what is owned stands where its objects stand -/
theorem RO.rp (s : Same F F') : ∀ {n : Nat} {d : D} {v : V} {S : AS}, RO K F H n d v S → (∀ a o, S a → H a = some o → F' a = some o) → Rp K F' d v
  | 0, _, _, _, h, _ => Rp.mono s h
  | n + 1, .lst ds, v, S, h, g => by
    obtain ⟨a, xs, T, rfl, e, _, sa, hl, ht, _, r⟩ := h
    exact ⟨a, xs, rfl, g _ _ sa e, RpL.of hl fun i d v h1 h2 => RO.rp s (r i d v h1 h2) fun b o tb => g b o (ht i b tb).1⟩
  | n + 1, .dic ds, v, S, h, g => by
    obtain ⟨a, xs, T, rfl, e, _, sa, hl, ht, _, r⟩ := h
    exact ⟨a, xs, rfl, g _ _ sa e, RpK.of hl fun i p q h1 h2 => ⟨(r i p q h1 h2).1, RO.rp s (r i p q h1 h2).2 fun b o tb => g b o (ht i b tb).1⟩⟩
  | n + 1, .dit ds, v, S, h, g => by
    obtain ⟨a, xs, T, rfl, e, _, sa, hl, ht, _, r⟩ := h
    exact ⟨a, xs, rfl, g _ _ sa e, RpT.of hl fun i p q h1 h2 => ⟨(r i p q h1 h2).1, RO.rp s (r i p q h1 h2).2 fun b o tb => g b o (ht i b tb).1⟩⟩
  | _ + 1, .non, _, _, h, _ => h
  | _ + 1, .bl _, _, _, h, _ => h
  | _ + 1, .int _, _, _, h, _ => h
  | _ + 1, .str _, _, _, h, _ => h
  | _ + 1, .tup _, _, _, h, _ => Rp.mono s h
  | _ + 1, .scr _, _, _, h, _ => Rp.mono s h
/-- it is readable in the whole heap -/
theorem RO.rd {n : Nat} {d : D} {v : V} {S : AS} (h : RO K F H n d v S) (s : Same F H) : Rp K H d v := h.rp s fun _ _ _ e => e
/-- other heaps, where its objects are as they were -/
theorem RO.frame (s : Same F F') : ∀ {n : Nat} {d : D} {v : V} {S : AS}, RO K F H n d v S → (∀ a o, S a → H a = some o → F a = none → F' a = none ∧ H' a = some o) → RO K F' H' n d v S
  | 0, _, _, _, h, _ => Rp.mono s h
  | n + 1, .lst ds, v, S, h, g => by
    obtain ⟨a, xs, T, rfl, e, f, sa, hl, ht, hd, r⟩ := h
    exact ⟨a, xs, T, rfl, (g _ _ sa e f).2, (g _ _ sa e f).1, sa, hl, ht, hd, fun i d v h1 h2 => RO.frame s (r i d v h1 h2) fun b o tb => g b o (ht i b tb).1⟩
  | n + 1, .dic ds, v, S, h, g => by
    obtain ⟨a, xs, T, rfl, e, f, sa, hl, ht, hd, r⟩ := h
    exact ⟨a, xs, T, rfl, (g _ _ sa e f).2, (g _ _ sa e f).1, sa, hl, ht, hd, fun i d v h1 h2 => ⟨(r i d v h1 h2).1, RO.frame s (r i d v h1 h2).2 fun b o tb => g b o (ht i b tb).1⟩⟩
  | n + 1, .dit ds, v, S, h, g => by
    obtain ⟨a, xs, T, rfl, e, f, sa, hl, ht, hd, r⟩ := h
    exact ⟨a, xs, T, rfl, (g _ _ sa e f).2, (g _ _ sa e f).1, sa, hl, ht, hd, fun i d v h1 h2 => ⟨(r i d v h1 h2).1, RO.frame s (r i d v h1 h2).2 fun b o tb => g b o (ht i b tb).1⟩⟩
  | _ + 1, .non, _, _, h, _ => h
  | _ + 1, .bl _, _, _, h, _ => h
  | _ + 1, .int _, _, _, h, _ => h
  | _ + 1, .str _, _, _, h, _ => h
  | _ + 1, .tup _, _, _, h, _ => Rp.mono s h
  | _ + 1, .scr _, _, _, h, _ => Rp.mono s h
theorem RO.wide : ∀ {n : Nat} {d : D} {v : V} {S S' : AS}, RO K F H n d v S → (∀ a, S a → S' a) → RO K F H n d v S'
  | 0, _, _, _, _, h, _ => h
  | n + 1, .lst ds, v, S, _, h, g => by
    obtain ⟨a, xs, T, rfl, e, f, sa, hl, ht, hd, r⟩ := h
    exact ⟨a, xs, T, rfl, e, f, g _ sa, hl, fun i b t => ⟨g _ (ht i b t).1, (ht i b t).2⟩, hd, r⟩
  | n + 1, .dic ds, v, S, _, h, g => by
    obtain ⟨a, xs, T, rfl, e, f, sa, hl, ht, hd, r⟩ := h
    exact ⟨a, xs, T, rfl, e, f, g _ sa, hl, fun i b t => ⟨g _ (ht i b t).1, (ht i b t).2⟩, hd, r⟩
  | n + 1, .dit ds, v, S, _, h, g => by
    obtain ⟨a, xs, T, rfl, e, f, sa, hl, ht, hd, r⟩ := h
    exact ⟨a, xs, T, rfl, e, f, g _ sa, hl, fun i b t => ⟨g _ (ht i b t).1, (ht i b t).2⟩, hd, r⟩
  | _ + 1, .non, _, _, _, h, _ => h
  | _ + 1, .bl _, _, _, _, h, _ => h
  | _ + 1, .int _, _, _, _, h, _ => h
  | _ + 1, .str _, _, _, _, h, _ => h
  | _ + 1, .tup _, _, _, _, h, _ => h
  | _ + 1, .scr _, _, _, _, h, _ => h
/-- owned to a lesser depth: what lies deeper is frozen -/
theorem RO.lower : ∀ {m n : Nat} {d : D} {v : V} {S : AS}, RO K F H n d v S → m ≤ n → ∃ S' : AS, (∀ a, S' a → S a) ∧
    ∀ G : Hp, Same F G → (∀ a o, S a → ¬ S' a → H a = some o → G a = some o) → (∀ a, S' a → F a = none → G a = none) → RO K G H m d v S'
  | 0, _, _, _, _, h, _ => ⟨noA, fun _ q => q.elim, fun G s g _ => h.rp s fun a o sa e => g a o sa (fun q => q) e⟩
  | m + 1, 0, _, _, _, _, l => absurd l (Nat.not_succ_le_zero m)
  | m + 1, n + 1, .lst ds, v, S, h, l => by
    obtain ⟨a, xs, T, rfl, e, f, sa, hl, ht, hd, r⟩ := h
    have ch : ∀ i, ∃ S' : AS, (∀ b, S' b → T i b) ∧ ∀ d v, ds[i]? = some d → xs[i]? = some v → ∀ G : Hp, Same F G → (∀ a o, T i a → ¬ S' a → H a = some o → G a = some o) → (∀ a, S' a → F a = none → G a = none) → RO K G H m d v S' := fun i => by
      by_cases hi : i < xs.length
      · have h1 : ds[i]? = some (ds[i]'(by omega)) := List.getElem?_eq_getElem _
        have h2 : xs[i]? = some xs[i] := List.getElem?_eq_getElem _
        obtain ⟨S', s1, s2⟩ := RO.lower (m := m) (r i _ _ h1 h2) (Nat.le_of_succ_le_succ l)
        refine ⟨S', s1, fun d v q1 q2 => ?_⟩
        rw [h1] at q1; rw [h2] at q2
        cases q1; cases q2
        exact s2
      · exact ⟨noA, fun _ q => q.elim, fun d v _ q2 => by rw [List.getElem?_eq_none (by omega)] at q2; cases q2⟩
    let T' := fun i => Classical.choose (ch i)
    have t1 : ∀ i b, T' i b → T i b := fun i => (Classical.choose_spec (ch i)).1
    have t2 := fun i => (Classical.choose_spec (ch i)).2
    refine ⟨fun b => b = a ∨ ∃ i, T' i b, fun b q => ?_, fun G s g1 g2 => ?_⟩
    · rcases q with rfl | ⟨i, q⟩
      · exact sa
      · exact (ht i b (t1 i b q)).1
    · refine ⟨a, xs, T', rfl, e, g2 a (.inl rfl) f, .inl rfl, hl, fun i b q => ⟨.inr ⟨i, q⟩, (ht i b (t1 i b q)).2⟩, fun i j b q q' => hd i j b (t1 i b q) (t1 j b q'), fun i d v h1 h2 => ?_⟩
      refine t2 i d v h1 h2 G s (fun b o tb nb e => g1 b o (ht i b tb).1 (fun q => ?_) e) fun b q => g2 b (.inr ⟨i, q⟩)
      rcases q with rfl | ⟨j, q⟩
      · exact (ht i _ tb).2 rfl
      · cases hd i j b tb (t1 j b q)
        exact nb q
  | m + 1, n + 1, .dic ds, v, S, h, l => by
    obtain ⟨a, xs, T, rfl, e, f, sa, hl, ht, hd, r⟩ := h
    have ch : ∀ i, ∃ S' : AS, (∀ b, S' b → T i b) ∧ ∀ p q, ds[i]? = some p → xs[i]? = some q → ∀ G : Hp, Same F G → (∀ a o, T i a → ¬ S' a → H a = some o → G a = some o) → (∀ a, S' a → F a = none → G a = none) → p.1 = q.1 ∧ RO K G H m p.2 q.2 S' := fun i => by
      by_cases hi : i < xs.length
      · have h1 : ds[i]? = some (ds[i]'(by omega)) := List.getElem?_eq_getElem _
        have h2 : xs[i]? = some xs[i] := List.getElem?_eq_getElem _
        obtain ⟨S', s1, s2⟩ := RO.lower (m := m) (r i _ _ h1 h2).2 (Nat.le_of_succ_le_succ l)
        refine ⟨S', s1, fun d v q1 q2 => ?_⟩
        rw [h1] at q1; rw [h2] at q2
        cases q1; cases q2
        exact fun G s g1 g2 => ⟨(r i _ _ h1 h2).1, s2 G s g1 g2⟩
      · exact ⟨noA, fun _ q => q.elim, fun d v _ q2 => by rw [List.getElem?_eq_none (by omega)] at q2; cases q2⟩
    let T' := fun i => Classical.choose (ch i)
    have t1 : ∀ i b, T' i b → T i b := fun i => (Classical.choose_spec (ch i)).1
    have t2 := fun i => (Classical.choose_spec (ch i)).2
    refine ⟨fun b => b = a ∨ ∃ i, T' i b, fun b q => ?_, fun G s g1 g2 => ?_⟩
    · rcases q with rfl | ⟨i, q⟩
      · exact sa
      · exact (ht i b (t1 i b q)).1
    · refine ⟨a, xs, T', rfl, e, g2 a (.inl rfl) f, .inl rfl, hl, fun i b q => ⟨.inr ⟨i, q⟩, (ht i b (t1 i b q)).2⟩, fun i j b q q' => hd i j b (t1 i b q) (t1 j b q'), fun i d v h1 h2 => ?_⟩
      refine t2 i d v h1 h2 G s (fun b o tb nb e => g1 b o (ht i b tb).1 (fun q => ?_) e) fun b q => g2 b (.inr ⟨i, q⟩)
      rcases q with rfl | ⟨j, q⟩
      · exact (ht i _ tb).2 rfl
      · cases hd i j b tb (t1 j b q)
        exact nb q
  | m + 1, n + 1, .dit ds, v, S, h, l => by
    obtain ⟨a, xs, T, rfl, e, f, sa, hl, ht, hd, r⟩ := h
    have ch : ∀ i, ∃ S' : AS, (∀ b, S' b → T i b) ∧ ∀ p q, ds[i]? = some p → xs[i]? = some q → ∀ G : Hp, Same F G → (∀ a o, T i a → ¬ S' a → H a = some o → G a = some o) → (∀ a, S' a → F a = none → G a = none) → p.1 = q.1 ∧ RO K G H m p.2 q.2 S' := fun i => by
      by_cases hi : i < xs.length
      · have h1 : ds[i]? = some (ds[i]'(by omega)) := List.getElem?_eq_getElem _
        have h2 : xs[i]? = some xs[i] := List.getElem?_eq_getElem _
        obtain ⟨S', s1, s2⟩ := RO.lower (m := m) (r i _ _ h1 h2).2 (Nat.le_of_succ_le_succ l)
        refine ⟨S', s1, fun d v q1 q2 => ?_⟩
        rw [h1] at q1; rw [h2] at q2
        cases q1; cases q2
        exact fun G s g1 g2 => ⟨(r i _ _ h1 h2).1, s2 G s g1 g2⟩
      · exact ⟨noA, fun _ q => q.elim, fun d v _ q2 => by rw [List.getElem?_eq_none (by omega)] at q2; cases q2⟩
    let T' := fun i => Classical.choose (ch i)
    have t1 : ∀ i b, T' i b → T i b := fun i => (Classical.choose_spec (ch i)).1
    have t2 := fun i => (Classical.choose_spec (ch i)).2
    refine ⟨fun b => b = a ∨ ∃ i, T' i b, fun b q => ?_, fun G s g1 g2 => ?_⟩
    · rcases q with rfl | ⟨i, q⟩
      · exact sa
      · exact (ht i b (t1 i b q)).1
    · refine ⟨a, xs, T', rfl, e, g2 a (.inl rfl) f, .inl rfl, hl, fun i b q => ⟨.inr ⟨i, q⟩, (ht i b (t1 i b q)).2⟩, fun i j b q q' => hd i j b (t1 i b q) (t1 j b q'), fun i d v h1 h2 => ?_⟩
      refine t2 i d v h1 h2 G s (fun b o tb nb e => g1 b o (ht i b tb).1 (fun q => ?_) e) fun b q => g2 b (.inr ⟨i, q⟩)
      rcases q with rfl | ⟨j, q⟩
      · exact (ht i _ tb).2 rfl
      · cases hd i j b tb (t1 j b q)
        exact nb q
  | _ + 1, _ + 1, .non, _, _, h, _ => ⟨noA, fun _ q => q.elim, fun _ _ _ _ => h⟩
  | _ + 1, _ + 1, .bl _, _, _, h, _ => ⟨noA, fun _ q => q.elim, fun _ _ _ _ => h⟩
  | _ + 1, _ + 1, .int _, _, _, h, _ => ⟨noA, fun _ q => q.elim, fun _ _ _ _ => h⟩
  | _ + 1, _ + 1, .str _, _, _, h, _ => ⟨noA, fun _ q => q.elim, fun _ _ _ _ => h⟩
  | _ + 1, _ + 1, .tup _, _, _, h, _ => ⟨noA, fun _ q => q.elim, fun _ s _ _ => Rp.mono s h⟩
  | _ + 1, _ + 1, .scr _, _, _, h, _ => ⟨noA, fun _ q => q.elim, fun _ s _ _ => Rp.mono s h⟩
end

/-! ### steps and frames -/
/-- from the heaps F, H with the slots' sets S to F', H', S': what is not owned by a slot of T stands; T's slots may have grown by new objects -/
structure Stp (T : List Nat) (F H : Hp) (S : Nat → AS) (F' H' : Hp) (S' : Nat → AS) : Prop where
  mono : Same F F'
  there : ∀ a o, H a = some o → ∃ o', H' a = some o'
  keep : ∀ a o, H a = some o → (∀ i ∈ T, ¬ S i a) → H' a = some o
  keepF : ∀ a o, H a = some o → F a = none → (∀ i ∈ T, ¬ S i a) → F' a = none
  fp : ∀ i a, S' i a → S i a ∨ (∃ j ∈ T, S j a) ∨ H a = none
  same : ∀ i, i ∉ T → S' i = S i

theorem Stp.refl {T : List Nat} {F H : Hp} {S : Nat → AS} : Stp T F H S F H S :=
  ⟨Same.refl _, fun _ o e => ⟨o, e⟩, fun _ _ e _ => e, fun _ _ _ e _ => e, fun _ _ q => .inl q, fun _ _ => rfl⟩
theorem none_of {H H' : Hp} (t : ∀ a o, H a = some o → ∃ o', H' a = some o') {a : Addr} (h : H' a = none) : H a = none := by
  cases q : H a with
  | none => rfl
  | some o =>
    obtain ⟨o', e⟩ := t a o q
    rw [h] at e; cases e
theorem Stp.trans {T1 T2 : List Nat} {F H F1 H1 F2 H2 : Hp} {S S1 S2 : Nat → AS} (x : Stp T1 F H S F1 H1 S1) (y : Stp T2 F1 H1 S1 F2 H2 S2) : Stp (T1 ++ T2) F H S F2 H2 S2 where
  mono := x.mono.trans y.mono
  there := fun a o e => let ⟨o', e'⟩ := x.there a o e; y.there a o' e'
  keep := fun a o e n => y.keep a o (x.keep a o e fun i hi => n i (List.mem_append_left _ hi)) fun i hi q => by
    rcases x.fp i a q with q | ⟨j, hj, q⟩ | q
    · exact n i (List.mem_append_right _ hi) q
    · exact n j (List.mem_append_left _ hj) q
    · rw [e] at q; cases q
  keepF := fun a o e f n => y.keepF a o (x.keep a o e fun i hi => n i (List.mem_append_left _ hi)) (x.keepF a o e f fun i hi => n i (List.mem_append_left _ hi)) fun i hi q => by
    rcases x.fp i a q with q | ⟨j, hj, q⟩ | q
    · exact n i (List.mem_append_right _ hi) q
    · exact n j (List.mem_append_left _ hj) q
    · rw [e] at q; cases q
  fp := fun i a q => by
    have lift : ∀ i, S1 i a → (S i a ∨ (∃ j ∈ T1 ++ T2, S j a) ∨ H a = none) := fun i q => by
      rcases x.fp i a q with q | ⟨j, hj, q⟩ | q
      · exact .inl q
      · exact .inr (.inl ⟨j, List.mem_append_left _ hj, q⟩)
      · exact .inr (.inr q)
    rcases y.fp i a q with q | ⟨j, hj, q⟩ | q
    · exact lift i q
    · rcases lift j q with w | w
      · exact .inr (.inl ⟨j, List.mem_append_right _ hj, w⟩)
      · exact .inr w
    · exact .inr (.inr (none_of x.there q))
  same := fun i hi => (y.same i fun q => hi (List.mem_append_right _ q)).trans (x.same i fun q => hi (List.mem_append_left _ q))
theorem Stp.weak {T T' : List Nat} {F H F1 H1 : Hp} {S S1 : Nat → AS} (x : Stp T F H S F1 H1 S1) (h : ∀ i ∈ T, i ∈ T') : Stp T' F H S F1 H1 S1 :=
  ⟨x.mono, x.there, fun a o e n => x.keep a o e fun i hi => n i (h i hi), fun a o e f n => x.keepF a o e f fun i hi => n i (h i hi), fun i a q => (x.fp i a q).imp id fun w => w.imp (fun ⟨j, hj, z⟩ => ⟨j, h j hj, z⟩) id, fun i hi => x.same i fun q => hi (h i q)⟩
/-- what a step does not touch is owned as it was -/
theorem Stp.ro {K : PySem.W.Frag} {T : List Nat} {F H F1 H1 : Hp} {S S1 : Nat → AS} (x : Stp T F H S F1 H1 S1) {n : Nat} {d : D} {v : V} {Z : AS} (r : RO K F H n d v Z) (h : ∀ a, Z a → ∀ i ∈ T, ¬ S i a) : RO K F1 H1 n d v Z :=
  r.frame x.mono fun a o z e f => ⟨x.keepF a o e f (h a z), x.keep a o e (h a z)⟩

abbrev Env := List (Option D)
/-- slot i -/
def gt (env : Env) (i : Nat) : Option D := (env[i]?).getD none

/-- a frame: G the depths, σ the slots' values, env their data, S what they own -/
structure RI (K : PySem.W.Frag) (G : Nat → Nat) (F H : Hp) (σ : L2.St) (env : Env) (S : Nat → AS) : Prop where
  sub : Same F H
  cell : ∀ i d, gt env i = some d → ∃ v, σ[i]? = some (some v) ∧ RO K F H (G i) d v (S i)
  dj : ∀ i j a, S i a → S j a → i = j
  lv : ∀ i a, S i a → ∃ o, H a = some o
  len : env.length ≤ σ.length

/-- what a value owns: it lives, it is new or of a slot of T, and no slot has it -/
def Frs (T : List Nat) (H : Hp) (S : Nat → AS) (H' : Hp) (S' : Nat → AS) (Z : AS) : Prop := ∀ a, Z a → (∃ o, H' a = some o) ∧ (H a = none ∨ ∃ i ∈ T, S i a) ∧ ∀ i, ¬ S' i a
theorem Frs.none {T : List Nat} {H H' : Hp} {S S' : Nat → AS} : Frs T H S H' S' noA := fun _ q => q.elim
theorem Frs.weak {T T' : List Nat} {H H' : Hp} {S S' : Nat → AS} {Z : AS} (x : Frs T H S H' S' Z) (h : ∀ i ∈ T, i ∈ T') : Frs T' H S H' S' Z := fun a q =>
  ⟨(x a q).1, (x a q).2.1.imp id fun ⟨i, hi, z⟩ => ⟨i, h i hi, z⟩, (x a q).2.2⟩
/-- seen from further back -/
theorem Frs.back {T1 T2 : List Nat} {F H F1 H1 H2 : Hp} {S S1 S2 : Nat → AS} {Z : AS} (x : Stp T1 F H S F1 H1 S1) (y : Frs T2 H1 S1 H2 S2 Z) : Frs (T1 ++ T2) H S H2 S2 Z := fun a q => by
  refine ⟨(y a q).1, ?_, (y a q).2.2⟩
  rcases (y a q).2.1 with h | ⟨i, hi, h⟩
  · exact .inl (none_of x.there h)
  · rcases x.fp i a h with h | ⟨j, hj, h⟩ | h
    · exact .inr ⟨i, List.mem_append_right _ hi, h⟩
    · exact .inr ⟨j, List.mem_append_left _ hj, h⟩
    · exact .inl h
/-- a value kept while more steps are made -/
theorem Frs.on {T1 T2 : List Nat} {F1 H H1 F2 H2 : Hp} {S S1 S2 : Nat → AS} {Z : AS} (y : Frs T1 H S H1 S1 Z) (x : Stp T2 F1 H1 S1 F2 H2 S2) : Frs (T1 ++ T2) H S H2 S2 Z := fun a q => by
  obtain ⟨⟨o, h1⟩, h2, h3⟩ := y a q
  refine ⟨x.there a o h1, ?_, fun i z => ?_⟩
  · rcases h2 with h | ⟨i, hi, h⟩
    · exact .inl h
    · exact .inr ⟨i, List.mem_append_left _ hi, h⟩
  · rcases x.fp i a z with z | ⟨j, _, z⟩ | z
    · exact h3 i z
    · exact h3 j z
    · rw [h1] at z; cases z
/-- a value that no slot has stays through a step -/
theorem Stp.val {K : PySem.W.Frag} {T T' : List Nat} {H F1 H1 F2 H2 : Hp} {S S1 S2 : Nat → AS} (x : Stp T F1 H1 S1 F2 H2 S2) {n : Nat} {d : D} {v : V} {Z : AS} (r : RO K F1 H1 n d v Z) (f : Frs T' H S H1 S1 Z) : RO K F2 H2 n d v Z :=
  x.ro r fun a z i _ => (f a z).2.2 i
/-- a value is lowered: the frozen part grows -/
theorem low {K : PySem.W.Frag} {G : Nat → Nat} {T : List Nat} {F H F1 H1 : Hp} {S S1 : Nat → AS} {σ : L2.St} {env : Env} {n m : Nat} {d : D} {v : V} {Z : AS} (x : Stp T F H S F1 H1 S1) (ri : RI K G F1 H1 σ env S1) (r : RO K F1 H1 n d v Z) (f : Frs T H S H1 S1 Z) (h : m ≤ n) :
    ∃ F2 Z', Stp T F H S F2 H1 S1 ∧ RI K G F2 H1 σ env S1 ∧ RO K F2 H1 m d v Z' ∧ Frs T H S H1 S1 Z' ∧ (∀ a, Z' a → Z a) ∧ Same F1 F2 ∧ ∀ a, ¬ Z a → F2 a = F1 a := by
  obtain ⟨Z', z1, z2⟩ := r.lower h
  classical
  let F2 : Hp := fun a => if Z a ∧ ¬ Z' a then H1 a else F1 a
  have e1 : ∀ a, Z a ∧ ¬ Z' a → F2 a = H1 a := fun a q => if_pos q
  have e2 : ∀ a, ¬ (Z a ∧ ¬ Z' a) → F2 a = F1 a := fun a q => if_neg q
  have s12 : Same F1 F2 := fun a o e => by
    by_cases q : Z a ∧ ¬ Z' a
    · rw [e1 a q]; exact ri.sub a o e
    · rw [e2 a q]; exact e
  have rz : RO K F2 H1 m d v Z' := z2 F2 s12 (fun a o sa na e => by rw [e1 a ⟨sa, na⟩]; exact e) fun a q e => by rw [e2 a fun w => w.2 q]; exact e
  refine ⟨F2, Z', ⟨x.mono.trans s12, x.there, x.keep, fun a o e fe n => ?_, x.fp, x.same⟩, ⟨fun a o e => ?_, fun i d' g => ?_, ri.dj, ri.lv, ri.len⟩, rz, fun a q => f a (z1 a q), z1, s12, fun a q => e2 a fun w => q w.1⟩
  · by_cases q : Z a ∧ ¬ Z' a
    · rcases (f a q.1).2.1 with w | ⟨i, hi, w⟩
      · rw [e] at w; cases w
      · exact (n i hi w).elim
    · rw [e2 a q]; exact x.keepF a o e fe n
  · by_cases q : Z a ∧ ¬ Z' a
    · rw [e1 a q] at e; exact e
    · rw [e2 a q] at e; exact ri.sub a o e
  · obtain ⟨w, hw, rw'⟩ := ri.cell i d' g
    refine ⟨w, hw, rw'.frame s12 fun a o z e fe => ⟨?_, e⟩⟩
    rw [e2 a fun q => (f a q.1).2.2 i z]; exact fe
end DL
/-! DL3: a small language for the programs' Python, and its evaluator over plain data. -/
namespace DL
open PySem PySem.Spec PyProof.Rows L2

/-! ### the language -/
inductive Op2 where
  | add | sub | mul | fdiv | mod | pow | shl | shr | bxor | band | lt | le | gt | ge | eq | ne | inn | nin | idx | pix | pixd | is | nis
  deriving DecidableEq
inductive Op1 where
  | neg | isN | notN | rev
  deriving DecidableEq
/-- built-in functions and types, by one argument or two -/
inductive B1 where
  | len | list | tuple | sorted | sum | min | max | int | abs | all | any | dict | str | ord | rng | fact | lss | srev
  deriving DecidableEq
inductive B2 where
  | min | max | rng | gcd
  deriving DecidableEq
inductive M1 where
  | index | count | join
  deriving DecidableEq
inductive Ty where
  | int | bool | str | list | tuple | dict
  deriving DecidableEq
inductive Tg where
  | one (i : Nat) | tup (is : List Nat)
  deriving DecidableEq
mutual
inductive Ex where
  | var (i : Nat) | mv (i : Nat) | io (i : Nat)
  | int (z : Int) | str (s : Str) | bl (b : Bool) | non
  | un (o : Op1) (a : Ex) | bin (o : Op2) (a b : Ex) | chain (o p : Op2) (a b c : Ex)
  | nt (a : Ex) | band (es : Exs) | bor (es : Exs) | ite (c : Ts) (a b : Ex)
  | lst (es : Exs) | tup (es : Exs) | slc (lo hi : Bool) (a b c : Ex)
  | call (f : Nat) (es : Exs) | b1 (o : B1) (a : Ex) | b2 (o : B2) (a b : Ex) | m1 (o : M1) (a b : Ex)
  | isi (a : Ex) (one : Bool) (ts : List Ty)
  | lc (g : Tg) (w : Wk) (c : Tss) (e : Ex) | dc (g : Tg) (w : Wk) (c : Tss) (k v : Ex)
  | lc2 (g : Tg) (w : Wk) (c : Tss) (g1 : Tg) (w1 : Wk) (c1 : Tss) (e : Ex)
  | dnew (t : Bool) | ddsp (kvs : Exs) | glo (f : Nat)
  | pop (i : Nat) (p : Exs) (es : Exs)
  | bad
inductive Exs where
  | nil | cons (e : Ex) (r : Exs)
/-- tests -/
inductive Ts where
  | val (e : Ex) | tru (e : Ex) | nt (t : Ts) | and (ts : Tss) | or (ts : Tss)
inductive Tss where
  | nil | cons (t : Ts) (r : Tss)
/-- what is walked -/
inductive Wk where
  | rng1 (a : Ex) | rng2 (a b : Ex) | rng3 (a b c : Ex) | it (a : Ex) | zip (a b : Ex) | enum (a : Ex)
end
mutual
inductive Sm where
  | asg (g : Tg) (e : Ex) | par (i j : Nat) (a b : Ex)
  | sets (dd : Bool) (x : Nat) (p : Exs) (k e : Ex) | augs (x : Nat) (o : Op2) (p : Exs) (k e : Ex) | aug (x : Nat) (o : Op2) (e : Ex)
  | app (x : Nat) (p : Exs) (e : Ex) | drop (e : Ex)
  | ite (c : Ts) (a b : Sms) | for (g : Tg) (w : Wk) (b : Sms) | whl (c : Ts) (b : Sms)
  | ret (e : Ex) | retN | brk | cnt | pass | kill (i : Nat) | never | alt (i m : Nat) (s : Sm)
inductive Sms where
  | nil | cons (s : Sm) (r : Sms)
end

/-! ### operators on data -/
def shp (d : D) : Bool := SeqAt.shaped (toPy d)
def eqv (a b : D) : Bool := PyData.eqv (toPy a) (toPy b)
def keyOf : D → Option Key
  | .int i => some (.inl i)
  | .str s => some (.inr s)
  | _ => none
def keysOf : List D → Option (List Key)
  | [] => some []
  | d :: ds => match keyOf d, keysOf ds with
    | some k, some ks => some (k :: ks)
    | _, _ => none
section
variable {κ : Type} [DecidableEq κ]
def valD (kvs : List (κ × D)) (k : κ) : Option D := (kvs.find? fun kv => decide (kv.1 = k)).map (·.2)
def putD (kvs : List (κ × D)) (k : κ) (v : D) : List (κ × D) :=
  if (kvs.any fun kv => decide (kv.1 = k)) = true then kvs.map (fun kv => if kv.1 = k then (kv.1, v) else kv) else kvs ++ [(k, v)]
end
def mulOk (i j : Int) : Bool := decide (i.natAbs < 18446744073709551616) || decide (j.natAbs < 18446744073709551616) || decide (i.natAbs.log2 + j.natAbs.log2 < 1000000)
def cutL {α : Type} (xs : List α) (lo hi : Option Int) : List α := (xs.drop (HT.sIx xs.length 0 lo)).take (HT.sIx xs.length xs.length hi - HT.sIx xs.length 0 lo)
def ofOpt {α : Type} : Option α → R α
  | some a => .ok a
  | none => .bad
def okL (xs : List D) : Option D := if xs.length ≤ sizeLine then some (.lst xs) else none
def b2d (b : Bool) : Int := if b then 1 else 0
def opF2 : Op2 → D → D → Option D
  | .add, .int i, .int j => some (.int (i + j))
  | .add, .str x, .str y => if x.length + y.length ≤ sizeLine then some (.str (x ++ y)) else none
  | .add, .lst x, .lst y => okL (x ++ y)
  | .sub, .int i, .int j => some (.int (i - j))
  | .mul, .int i, .int j => if mulOk i j then some (.int (i * j)) else none
  | .fdiv, .int i, .int j => if 0 < j ∧ j.natAbs.log2 < 9000 then some (.int (i / j)) else none
  | .mod, .int i, .int j => if 0 < j then some (.int (i % j)) else none
  | .pow, .int i, .int j => if 0 ≤ j ∧ j ≤ 1000000 ∧ i.natAbs < 18446744073709551616 then some (.int (i ^ j.toNat)) else none
  | .shl, .int i, .int j => if 0 ≤ j ∧ j ≤ 1000000 ∧ i.natAbs < 18446744073709551616 then some (.int (i * 2 ^ j.toNat)) else none
  | .shr, .int i, .int j => if 0 ≤ j then some (.int (i / 2 ^ j.toNat)) else none
  | .bxor, .int i, .int j => some (.int (Builtin.bitXor i j))
  | .band, .int i, .int j => some (.int (Builtin.bitAnd i j))
  | .lt, .int i, .int j => some (.bl (decide (i < j)))
  | .le, .int i, .int j => some (.bl (decide (i ≤ j)))
  | .gt, .int i, .int j => some (.bl (decide (j < i)))
  | .ge, .int i, .int j => some (.bl (decide (j ≤ i)))
  | .eq, a, b => if shp a && shp b then some (.bl (eqv a b)) else none
  | .ne, a, b => if shp a && shp b then some (.bl (!eqv a b)) else none
  | .inn, a, .lst ds => if shp a && shp (.lst ds) then some (.bl (ds.any fun z => eqv z a)) else none
  | .nin, a, .lst ds => if shp a && shp (.lst ds) then some (.bl (!ds.any fun z => eqv z a)) else none
  | .inn, a, .tup ds => if shp a && shp (.tup ds) then some (.bl (ds.any fun z => eqv z a)) else none
  | .nin, a, .tup ds => if shp a && shp (.tup ds) then some (.bl (!ds.any fun z => eqv z a)) else none
  | .is, .bl a, .bl b => some (.bl (decide (a = b)))
  | .nis, .bl a, .bl b => some (.bl (!decide (a = b)))
  | .inn, a, .dic kvs => ((keyOf a)).bind fun k => some (.bl (valD kvs k).isSome)
  | .nin, a, .dic kvs => ((keyOf a)).bind fun k => some (.bl !(valD kvs k).isSome)
  | .idx, .lst ds, .int i => atI ds i
  | .idx, .tup ds, .int i => atI ds i
  | .idx, .scr ns, .int i => (atI ns i).map .int
  | .idx, .str s, .int i => if s.length ≤ sizeLine then ((atI s.cps.toList i)).bind fun c => some (.str ⟨#[c]⟩) else none
  | .idx, .dic kvs, a => ((keyOf a)).bind fun k => valD kvs k
  | .pix, .lst ds, .int i => atI ds i
  | .pixd, .dic kvs, a => ((keyOf a)).bind fun k => valD kvs k
  | _, _, _ => none
/-- x op= y: ints and texts alone -/
def opA : Op2 → D → D → Option D
  | .add, .int i, .int j => some (.int (i + j))
  | .sub, .int i, .int j => some (.int (i - j))
  | .mul, .int i, .int j => if i.natAbs < 18446744073709551616 ∨ j.natAbs < 18446744073709551616 then some (.int (i * j)) else none
  | .fdiv, .int i, .int j => if 0 < j ∧ j < 1073741824 then some (.int (i / j)) else none
  | .mod, .int i, .int j => if 0 < j then some (.int (i % j)) else none
  | .add, .str x, .str y => if x.length + y.length ≤ sizeLine then some (.str (x ++ y)) else none
  | _, _, _ => none
def opF1 : Op1 → D → Option D
  | .neg, .int i => some (.int (-i))
  | .isN, .non => some (.bl true)
  | .isN, _ => some (.bl false)
  | .notN, .non => some (.bl false)
  | .notN, _ => some (.bl true)
  | .rev, .lst ds => some (.lst ds.reverse)
  | _, _ => none
def intsOf : List D → Option (List Int)
  | [] => some []
  | .int i :: ds => (intsOf ds).map (i :: ·)
  | _ => none
def blsOf : List D → Option (List Bool)
  | [] => some []
  | .bl i :: ds => (blsOf ds).map (i :: ·)
  | _ => none
def pairsOf : List D → Option (List (Key × D))
  | [] => some []
  | .tup [k, v] :: ds => match keyOf k, pairsOf ds with
    | some k, some r => some ((k, v) :: r)
    | _, _ => none
  | _ => none
def insI (x : Int) : List Int → List Int
  | [] => [x]
  | y :: ys => if x ≤ y then x :: y :: ys else y :: insI x ys
def sortI : List Int → List Int
  | [] => []
  | x :: xs => insI x (sortI xs)
def leastI : List Int → Option Int
  | [] => none
  | [x] => some x
  | x :: xs => (leastI xs).map fun m => if m < x then m else x
def mostI : List Int → Option Int
  | [] => none
  | [x] => some x
  | x :: xs => (mostI xs).map fun m => if x < m then m else x
def rngL (lo hi : Int) : List D := (List.range (hi - lo).toNat).map fun (i : Nat) => .int (lo + (i : Int))
/-- hi, hi - 1, .., lo + 1 -/
def rngD (hi lo : Int) : List D := (List.range (hi - lo).toNat).map fun (i : Nat) => .int (hi + (i : Int) * -1)
def rngOk (lo hi : Int) : Bool := decide (-4611686018427387904 ≤ lo) && decide (lo < 4611686018427387904) && decide (-4611686018427387904 ≤ hi) && decide (hi < 4611686018427387904)
/-- the tuples of ints that stand in a row -/
def tupsOf : List D → Option (List (List Int))
  | [] => some []
  | .tup xs :: ds => (intsOf xs).bind fun ns => (tupsOf ds).map (ns :: ·)
  | _ => none
def dist : List (List Int) → List (List Int)
  | [] => []
  | x :: xs => if x ∈ xs then dist xs else x :: dist xs
/-- not many tuples of the one length, of ints that are not great -/
def tupsOk (L : List (List Int)) : Bool := decide (L.length < 64) && match L with
  | [] => true
  | x :: r => decide (0 < x.length) && (x :: r).all fun ns => decide (ns.length = x.length) && ns.all fun m => decide (0 ≤ m) && decide (m < 1000)
def facN : Nat → Nat
  | 0 => 1
  | n + 1 => (n + 1) * facN n
/-- rows of ints -/
def rowsOf : List D → Option (List (List Int))
  | [] => some []
  | .lst xs :: ds => (intsOf xs).bind fun ns => (rowsOf ds).map (ns :: ·)
  | _ => none
def leRow : List Int → List Int → Bool
  | [], _ => true
  | _ :: _, [] => false
  | x :: xs, y :: ys => if x < y then true else if x = y then leRow xs ys else false
def insR (x : List Int) : List (List Int) → List (List Int)
  | [] => [x]
  | y :: ys => if leRow x y = true then x :: y :: ys else y :: insR x ys
def sortR : List (List Int) → List (List Int)
  | [] => []
  | x :: xs => insR x (sortR xs)
def sortD (ds : List D) : Option D := match intsOf ds with
  | some ns => some (.lst ((sortI ns).map .int))
  | none => (rowsOf ds).bind fun L => some (.lst ((sortR L).map fun r => .lst (r.map .int)))
def b1F : B1 → D → Option D
  | .fact, .int n => if 0 ≤ n ∧ n ≤ 1000 then some (.int (facN n.toNat)) else none
  | .srev, .lst ds => ((intsOf ds)).bind fun ns => some (.lst ((sortI ns).reverse.map .int))
  | .lss, .lst ds => (tupsOf ds).bind fun L => if tupsOk L = true then some (.int (dist L).length) else none
  | .len, .lst ds => some (.int ds.length)
  | .len, .tup ds => some (.int ds.length)
  | .len, .scr ns => some (.int ns.length)
  | .len, .str s => if s.length ≤ sizeLine then some (.int s.length) else none
  | .len, .dic kvs => some (.int kvs.length)
  | .list, .lst ds => some (.lst ds)
  | .list, .tup ds => some (.lst ds)
  | .list, .scr ns => some (.lst (ns.map .int))
  | .tuple, .lst ds => some (.tup ds)
  | .tuple, .tup ds => some (.tup ds)
  | .sorted, .lst ds => sortD ds
  | .sum, .lst ds => ((intsOf ds)).bind fun ns => some (.int ns.sum)
  | .min, .lst ds => ((intsOf ds)).bind fun ns => ((leastI ns)).bind fun m => some (.int m)
  | .max, .lst ds => ((intsOf ds)).bind fun ns => ((mostI ns)).bind fun m => some (.int m)
  | .int, .int i => some (.int i)
  | .int, .bl b => some (.int (b2d b))
  | .abs, .int i => some (.int (if i < 0 then -i else i))
  | .all, .lst ds => ((blsOf ds)).bind fun bs => some (.bl (bs.all id))
  | .any, .lst ds => ((blsOf ds)).bind fun bs => some (.bl (bs.any id))
  | .dict, .lst ds => ((pairsOf ds)).bind fun kvs => some (.dic (kvs.foldl (fun acc kv => putD acc kv.1 kv.2) []))
  | .rng, .int n => if rngOk 0 n && decide (n ≤ 16777216) then some (.lst (rngL 0 n)) else none
  | _, _ => none
def b2F : B2 → D → D → Option D
  | .min, .int i, .int j => some (.int (if j < i then j else i))
  | .max, .int i, .int j => some (.int (if j > i then j else i))
  | .rng, .int i, .int j => if rngOk i j && decide (j - i ≤ 16777216) then some (.lst (rngL i j)) else none
  | _, _, _ => none
/-- the first place -/
def firstAt {α : Type} (p : α → Bool) : List α → Option Nat
  | [] => none
  | x :: xs => if p x then some 0 else (firstAt p xs).map (· + 1)
def m1F : M1 → D → D → Option D
  | .index, .lst ds, a => if shp a && shp (.lst ds) then ((firstAt (fun z => eqv z a) ds)).bind fun j => some (.int j) else none
  | .count, .lst ds, .int k => ((intsOf ds)).bind fun ns => some (.int (ns.count k))
  | _, _, _ => none
def tyOf : D → Ty → Bool
  | .bl _, .bool => true
  | .bl _, .int => true
  | .int _, .int => true
  | .str _, .str => true
  | .lst _, .list => true
  | .tup _, .tuple => true
  | .dic _, .dict => true
  | .dit _, .dict => true
  | _, _ => false
def truth : D → Option Bool
  | .non => some false
  | .bl b => some b
  | .int i => some (i != 0)
  | .lst ds => some !ds.isEmpty
  | _ => none
def asI : D → Option Int
  | .int i => some i
  | _ => none
/-- only True and False -/
def asB : D → Option Bool
  | .bl b => some b
  | _ => none

/-! ### the evaluator -/
/-- a call: the function, its arguments; the value, and what became of the arguments that it changes -/
abbrev Cal := Nat → List D → R (D × List (Option D))
def getv (i : Nat) (env : Env) : R D := ofOpt (gt env i)
def tgs : Tg → List Nat
  | .one i => [i]
  | .tup is => is
def bindL : List Nat → List D → Env → R Env
  | [], [], env => .ok env
  | i :: is, d :: ds, env => bindL is ds (env.set i (some d))
  | _, _, _ => .bad
def bindT : Tg → D → Env → R Env
  | .one i, d, env => .ok (env.set i (some d))
  | .tup is, .tup ds, env => bindL is ds env
  | _, _, _ => .bad
def unset : List Nat → Env → Env
  | [], env => env
  | i :: is, env => (unset is env).set i none
/-- the slots is of env as they are in old -/
def reset : List Nat → Env → Env → Env
  | [], _, env => env
  | i :: is, old, env => (reset is old env).set i (gt old i)
/-- a list comprehension's turns; un: its own names forgotten -/
def lcL (un : Env → Env) (bd : D → Env → R Env) (c : Env → R (Bool × Env)) (e : Env → R (D × Env)) : List D → Env → R (List D × Env)
  | [], env => .ok ([], env)
  | d :: ds, env => match bd d env with
    | .ok env1 => match c env1 with
      | .ok (true, env2) => match e env2 with
        | .ok (y, env3) => match lcL un bd c e ds (un env3) with
          | .ok (ys, env4) => .ok (y :: ys, env4)
          | _ => .bad
        | _ => .bad
      | .ok (false, env2) => lcL un bd c e ds (un env2)
      | _ => .bad
    | _ => .bad
/-- a dict comprehension's turns -/
def dcL (un : Env → Env) (bd : D → Env → R Env) (c : Env → R (Bool × Env)) (ek ev : Env → R (D × Env)) : List D → List (Key × D) → Env → R (List (Key × D) × Env)
  | [], acc, env => .ok (acc, env)
  | d :: ds, acc, env => match bd d env with
    | .ok env1 => match c env1 with
      | .ok (true, env2) => match ek env2 with
        | .ok (y, env3) => match ev env3 with
          | .ok (z, env4) => match keyOf y with
            | some k => if acc.length < sizeLine then dcL un bd c ek ev ds (putD acc k z) (un env4) else .bad
            | none => .bad
          | _ => .bad
        | _ => .bad
      | .ok (false, env2) => dcL un bd c ek ev ds acc (un env2)
      | _ => .bad
    | _ => .bad
def pairUp : List D → List D → List D
  | x :: xs, y :: ys => .tup [x, y] :: pairUp xs ys
  | _, _ => []
def enumL (i : Nat) : List D → List D
  | [] => []
  | x :: xs => .tup [.int i, x] :: enumL (i + 1) xs
def signs (s : Str) : List D := s.cps.toList.map fun c => .str ⟨#[c]⟩
def itemsOf : D → Option (List D)
  | .lst ds => some ds
  | .tup ds => some ds
  | .str s => some (signs s)
  | .scr ns => some (ns.map .int)
  | _ => none
/-- the slots that a call changes -/
def ioOf : Exs → List Nat
  | .nil => []
  | .cons (.io i) r => i :: ioOf r
  | .cons _ r => ioOf r
/-- what a call made of the arguments that it changes -/
def putA : List (Sum D Nat) → List (Option D) → Env → R Env
  | [], [], env => .ok env
  | .inl _ :: r, [], env => putA r [] env
  | .inl _ :: r, none :: q, env => putA r q env
  | .inr i :: r, some d :: q, env => putA r q (env.set i (some d))
  | _, _, _ => .bad
/-- the arguments as they stand at the call -/
def resolve : List (Sum D Nat) → Env → R (List D)
  | [], _ => .ok []
  | .inl d :: r, env => (resolve r env).bind fun ds => .ok (d :: ds)
  | .inr i :: r, env => (getv i env).bind fun d => (resolve r env).bind fun ds => .ok (d :: ds)
/-- the part of x at the path -/
def atPath : D → List D → Option D
  | d, [] => some d
  | .lst ds, .int i :: r => ((atI ds i)).bind fun d => atPath d r
  | .dic kvs, k :: r => (keyOf k).bind fun k => (firstAt (fun kv => decide (kv.1 = k)) kvs).bind fun j => (kvs[j]?).bind fun kv => atPath kv.2 r
  | _, _ => none
/-- x with the part at the path changed by f -/
def onPath (f : D → Option D) : D → List D → Option D
  | d, [] => f d
  | .lst ds, .int i :: r => ((ixN ds.length i)).bind fun j => (ds[j]?).bind fun d => (onPath f d r).bind fun d' => some (.lst (ds.set j d'))
  | .dic kvs, k :: r => (keyOf k).bind fun k => (firstAt (fun kv => decide (kv.1 = k)) kvs).bind fun j => (kvs[j]?).bind fun kv => (onPath f kv.2 r).bind fun d' => some (.dic (kvs.set j (kv.1, d')))
  | _, _ => none
def isScr : D → Bool
  | .scr _ => true
  | _ => false
def isConB : D → Bool
  | .lst _ => true
  | .dic _ => true
  | _ => false
def isVal0 : D → Bool
  | .int _ => true
  | .str _ => true
  | _ => false
/-- what stands at the key, of a list or dict: an int or a text -/
def getAt (c k : D) : Option D := if isConB c = true then (opF2 .idx c k).bind fun d => if isVal0 d = true then some d else none else none
/-- d[k] = v -/
def setAt (dd : Bool) (k v : D) : D → Option D
  | .lst ds => match k with
    | .int i => ((ixN ds.length i)).bind fun j => some (.lst (ds.set j v))
    | _ => none
  | .dic kvs => if dd = true then ((keyOf k)).bind fun k => if kvs.length < sizeLine then some (.dic (putD kvs k v)) else none else none
  | _ => none
def appTo (v : D) : D → Option D
  | .lst ds => if ds.length < sizeLine then some (.lst (ds ++ [v])) else none
  | _ => none
/-- the keys of a path from slot x, a part of which stands there -/
def pth (x : Nat) (ev : Env → R (List D × Env)) (env : Env) : R (List D × Env) := (getv x env).bind fun _ => (ev env).bind fun ks => (getv x ks.2).bind fun d => (ofOpt (atPath d ks.1)).bind fun _ => .ok ks
/-- the last of a path apart -/
def lastOf : List D → Option (List D × D)
  | [] => none
  | [k] => some ([], k)
  | k :: r => (lastOf r).bind fun p => some (k :: p.1, p.2)
def isLst : D → Option Unit
  | .lst _ => some ()
  | _ => none
/-- the type whose method it is -/
def m1G : M1 → D → Option Unit
  | .join, .str _ => some ()
  | .join, _ => none
  | _, d => isLst d
/-- what pop takes: the item and the rest -/
def popOf : D → List D → Option (D × D)
  | .lst ds, [] => (ds.getLast?).bind fun y => some (y, .lst ds.dropLast)
  | .lst ds, [.int i] => if -4611686018427387904 ≤ i ∧ i < 4611686018427387904 then (ixN ds.length i).bind fun j => (ds[j]?).bind fun y => some (y, .lst (ds.eraseIdx j)) else none
  | _, _ => none
/-- keys and values in turn -/
def pairD : List D → Option (List (Key × D))
  | [] => some []
  | k :: v :: r => (keyOf k).bind fun k => (pairD r).bind fun r => some ((k, v) :: r)
  | _ => none
def dspL (ds : List D) : Option (List (Key × D)) := (pairD ds).bind fun kvs => if kvs.length ≤ 15 then some (kvs.foldl (fun acc kv => putD acc kv.1 kv.2) []) else none
def merge (kvs : List (Key × D)) : List (Key × D) := kvs.foldl (fun acc kv => putD acc kv.1 kv.2) []

def slcF (a : D) (l h : Option Int) : Option D :=
  match a with
  | .lst ds => some (.lst (cutL ds l h))
  | .scr ns => some (.lst (cutL (ns.map .int) l h))
  | .str s => if s.length ≤ sizeLine then some (.str (cutS s l h)) else none
  | .tup ds => some (.tup (cutL ds l h))
  | _ => none
section
variable (cal : Cal)
mutual
def evE : Ex → Env → R (D × Env)
  | .var i, env => (getv i env).bind fun d => .ok (d, env)
  | .mv i, env => (getv i env).bind fun d => .ok (d, env.set i none)
  | .io _, _ => .bad
  | .int z, env => .ok (.int z, env)
  | .str s, env => .ok (.str s, env)
  | .bl b, env => .ok (.bl b, env)
  | .non, env => .ok (.non, env)
  | .un o a, env => (evE a env).bind fun p => (ofOpt (opF1 o p.1)).bind fun d => .ok (d, p.2)
  | .bin o a b, env => (evE a env).bind fun p => (evE b p.2).bind fun q => (ofOpt (opF2 o p.1 q.1)).bind fun d => .ok (d, q.2)
  | .chain o o' a b c, env => (evE a env).bind fun p => (evE b p.2).bind fun q => (ofOpt (opF2 o p.1 q.1)).bind fun d => (ofOpt (asB d)).bind fun k =>
      if k = true then (evE c q.2).bind fun r => (ofOpt (opF2 o' q.1 r.1)).bind fun d => .ok (d, r.2) else .ok (.bl false, q.2)
  | .nt a, env => (evE a env).bind fun p => (ofOpt (asB p.1)).bind fun b => .ok (.bl !b, p.2)
  | .band es, env => evAnd es env
  | .bor es, env => evOr es env
  | .ite c a b, env => (evT c env).bind fun p => if p.1 = true then evE a p.2 else evE b p.2
  | .lst es, env => (evEs es env).bind fun p => .ok (.lst p.1, p.2)
  | .tup es, env => (evEs es env).bind fun p => .ok (.tup p.1, p.2)
  | .slc lo hi a b c, env => (evE a env).bind fun p => (if lo = true then (evE b p.2).bind fun q => (ofOpt (asI q.1)).bind fun i => .ok (some i, q.2) else .ok (none, p.2)).bind fun q =>
      (if hi = true then (evE c q.2).bind fun r => (ofOpt (asI r.1)).bind fun i => .ok (some i, r.2) else .ok (none, q.2)).bind fun r => (ofOpt (slcF p.1 q.1 r.1)).bind fun d => .ok (d, r.2)
  | .call f es, env => (evAs es env).bind fun p => (resolve p.1 p.2).bind fun ds => (cal f ds).bind fun q => (putA p.1 q.2 p.2).bind fun env' => .ok (q.1, env')
  | .b1 o a, env => (evE a env).bind fun p => (ofOpt (b1F o p.1)).bind fun d => .ok (d, p.2)
  | .b2 o a b, env => (evE a env).bind fun p => (evE b p.2).bind fun q => (ofOpt (b2F o p.1 q.1)).bind fun d => .ok (d, q.2)
  | .m1 o a b, env => (evE a env).bind fun p => (ofOpt (m1G o p.1)).bind fun _ => (evE b p.2).bind fun q => (ofOpt (m1F o p.1 q.1)).bind fun d => .ok (d, q.2)
  | .isi a _ ts, env => (evE a env).bind fun p => if isScr p.1 = true then .bad else .ok (.bl (ts.any (tyOf p.1)), p.2)
  | .lc g w c e, env => (evW w env).bind fun p => (lcL (unset (tgs g)) (bindT g) (evTs c) (evE e) p.1 (unset (tgs g) p.2)).bind fun q => if q.1.length ≤ sizeLine then .ok (.lst q.1, reset (tgs g) p.2 q.2) else .bad
  | .lc2 g w c g1 w1 c1 e, env => .bad
  | .dc g w c k v, env => (evW w env).bind fun p => (dcL (unset (tgs g)) (bindT g) (evTs c) (evE k) (evE v) p.1 [] (unset (tgs g) p.2)).bind fun q => .ok (.dic q.1, reset (tgs g) p.2 q.2)
  | .dnew t, env => .ok (if t then .dit [] else .dic [], env)
  | .ddsp kvs, env => (evEs kvs env).bind fun p => (ofOpt (dspL p.1)).bind fun d => .ok (.dic d, p.2)
  | .glo f, env => (cal f []).bind fun q => .ok (q.1, env)
  | .pop i p es, env => (pth i (evEs p) env).bind fun p => (getv i p.2).bind fun d => (ofOpt ((atPath d p.1).bind isLst)).bind fun _ => (evEs es p.2).bind fun q => (getv i q.2).bind fun x => (ofOpt (atPath x p.1)).bind fun y => (ofOpt (popOf y q.1)).bind fun z =>
      (ofOpt (onPath (fun _ => some z.2) x p.1)).bind fun x' => .ok (z.1, q.2.set i (some x'))
  | .bad, _ => .bad
def evEs : Exs → Env → R (List D × Env)
  | .nil, env => .ok ([], env)
  | .cons e r, env => (evE e env).bind fun p => (evEs r p.2).bind fun q => .ok (p.1 :: q.1, q.2)
def evAs : Exs → Env → R (List (Sum D Nat) × Env)
  | .nil, env => .ok ([], env)
  | .cons (.io i) r, env => (getv i env).bind fun _ => (evAs r env).bind fun q => .ok (.inr i :: q.1, q.2)
  | .cons e r, env => (evE e env).bind fun p => (evAs r p.2).bind fun q => .ok (.inl p.1 :: q.1, q.2)
def evAnd : Exs → Env → R (D × Env)
  | .nil, _ => .bad
  | .cons e .nil, env => evE e env
  | .cons e r, env => (evE e env).bind fun p => (ofOpt (asB p.1)).bind fun b => if b = true then evAnd r p.2 else .ok (.bl false, p.2)
def evOr : Exs → Env → R (D × Env)
  | .nil, _ => .bad
  | .cons e .nil, env => evE e env
  | .cons e r, env => (evE e env).bind fun p => (ofOpt (asB p.1)).bind fun b => if b = true then .ok (.bl true, p.2) else evOr r p.2
def evT : Ts → Env → R (Bool × Env)
  | .val e, env => (evE e env).bind fun p => (ofOpt (asB p.1)).bind fun b => .ok (b, p.2)
  | .tru e, env => (evE e env).bind fun p => (ofOpt (truth p.1)).bind fun b => .ok (b, p.2)
  | .nt t, env => (evT t env).bind fun p => .ok (!p.1, p.2)
  | .and ts, env => evTs ts env
  | .or ts, env => evTo ts env
/-- all of them, from the left -/
def evTs : Tss → Env → R (Bool × Env)
  | .nil, env => .ok (true, env)
  | .cons t .nil, env => evT t env
  | .cons t r, env => (evT t env).bind fun p => if p.1 = true then evTs r p.2 else .ok (false, p.2)
def evTo : Tss → Env → R (Bool × Env)
  | .nil, env => .ok (false, env)
  | .cons t .nil, env => evT t env
  | .cons t r, env => (evT t env).bind fun p => if p.1 = true then .ok (true, p.2) else evTo r p.2
def evW : Wk → Env → R (List D × Env)
  | .rng1 a, env => (evE a env).bind fun p => match p.1 with
    | .int n => if rngOk 0 n then .ok (rngL 0 n, p.2) else .bad
    | _ => .bad
  | .rng2 a b, env => (evE a env).bind fun p => (evE b p.2).bind fun q => match p.1, q.1 with
    | .int i, .int j => if rngOk i j then .ok (rngL i j, q.2) else .bad
    | _, _ => .bad
  | .rng3 a b c, env => (evE a env).bind fun p => (evE b p.2).bind fun q => (evE c q.2).bind fun r => match p.1, q.1, r.1 with
    | .int i, .int j, .int c => if (decide (c = -1) && rngOk i j) = true then .ok (rngD i j, r.2) else .bad
    | _, _, _ => .bad
  | .it a, env => (evE a env).bind fun p => (ofOpt (itemsOf p.1)).bind fun ds => .ok (ds, p.2)
  | .zip a b, env => (evE a env).bind fun p => (evE b p.2).bind fun q => match p.1, q.1 with
    | .lst xs, .lst ys => .ok (pairUp xs ys, q.2)
    | _, _ => .bad
  | .enum a, env => (evE a env).bind fun p => match p.1 with
    | .lst xs => .ok (enumL 0 xs, p.2)
    | _ => .bad
end

def evP (cal : Cal) (x : Nat) (p : Exs) (env : Env) : R (List D × Env) := pth x (evEs cal p) env
/-- how a block ends -/
inductive Fl where
  | nx (env : Env) | rt (d : D) (env : Env) | bk (env : Env) | ct (env : Env)
/-- slot i forgotten -/
def clr (i : Nat) : Fl → Fl
  | .nx e => .nx (e.set i none)
  | .rt d e => .rt d (e.set i none)
  | .bk e => .bk (e.set i none)
  | .ct e => .ct (e.set i none)
/-- a for's turns -/
def forL (bd : D → Env → R Env) (b : Env → R Fl) : List D → Env → R Fl
  | [], env => .ok (.nx env)
  | d :: ds, env => (bd d env).bind fun env1 => (b env1).bind fun f => match f with
    | .nx e => forL bd b ds e
    | .ct e => forL bd b ds e
    | .bk e => .ok (.nx e)
    | .rt d e => .ok (.rt d e)
/-- a while's turns, at most so many -/
def whlL (c : Env → R (Bool × Env)) (b : Env → R Fl) : Nat → Env → R Fl
  | 0, _ => .bad
  | n + 1, env => (c env).bind fun p => if p.1 = true then (b p.2).bind fun f => match f with
    | .nx e => whlL c b n e
    | .ct e => whlL c b n e
    | .bk e => .ok (.nx e)
    | .rt d e => .ok (.rt d e) else .ok (.nx p.2)
variable (fuel : Nat)
mutual
def evS : Sm → Env → R Fl
  | .asg g e, env => (evE cal e env).bind fun p => (bindT g p.1 p.2).bind fun env' => .ok (.nx env')
  | .par i j a b, env => (evE cal a env).bind fun p => (evE cal b p.2).bind fun q => .ok (.nx ((q.2.set i (some p.1)).set j (some q.1)))
  | .sets dd x p k e, env => (evE cal e env).bind fun v => (evP cal x p v.2).bind fun ks => (evE cal k ks.2).bind fun l => (getv x l.2).bind fun d => (ofOpt (onPath (setAt dd l.1 v.1) d ks.1)).bind fun d' => .ok (.nx (l.2.set x (some d')))
  | .augs x o p k e, env => (evP cal x p env).bind fun ks => (evE cal k ks.2).bind fun l => (getv x l.2).bind fun d => (ofOpt ((atPath d ks.1).bind fun c => getAt c l.1)).bind fun old => (evE cal e l.2).bind fun v => (ofOpt (opA o old v.1)).bind fun new =>
      (getv x v.2).bind fun d => (ofOpt (onPath (setAt true l.1 new) d ks.1)).bind fun d' => .ok (.nx (v.2.set x (some d')))
  | .aug x o e, env => (getv x env).bind fun old => (evE cal e env).bind fun v => (ofOpt (opA o old v.1)).bind fun new => .ok (.nx (v.2.set x (some new)))
  | .app x p e, env => (evP cal x p env).bind fun ks => (getv x ks.2).bind fun d => (ofOpt ((atPath d ks.1).bind isLst)).bind fun _ => (evE cal e ks.2).bind fun v => (getv x v.2).bind fun d => (ofOpt (onPath (appTo v.1) d ks.1)).bind fun d' => .ok (.nx (v.2.set x (some d')))
  | .drop e, env => (evE cal e env).bind fun p => .ok (.nx p.2)
  | .ite c a b, env => (evT cal c env).bind fun p => if p.1 = true then evB a p.2 else evB b p.2
  | .for g w b, env => (evW cal w env).bind fun p => forL (bindT g) (evB b) p.1 p.2
  | .whl c b, env => whlL (evT cal c) (evB b) fuel env
  | .ret e, env => (evE cal e env).bind fun p => .ok (.rt p.1 p.2)
  | .retN, env => .ok (.rt .non env)
  | .brk, env => .ok (.bk env)
  | .cnt, env => .ok (.ct env)
  | .pass, env => .ok (.nx env)
  | .kill i, env => .ok (.nx (env.set i none))
  | .never, _ => .bad
  | .alt i _ s, env => (evS s (env.set i none)).bind fun f => .ok (clr i f)
def evB : Sms → Env → R Fl
  | .nil, env => .ok (.nx env)
  | .cons s r, env => (evS s env).bind fun f => match f with
    | .nx e => evB r e
    | .rt d e => .ok (.rt d e)
    | .bk e => .ok (.bk e)
    | .ct e => .ok (.ct e)
end
end

/-- a function: its name, its local names (parameters first), how many parameters, the depths of its slots, the parameters that it changes, its answer's depth, its body -/
structure Fd where
  nm : Str
  N : List Str
  np : Nat
  G : List Nat
  io : List Bool
  rt : Nat
  body : Sms
/-- the parameters that it changes, behind it -/
def ioVals : List Bool → Env → List (Option D)
  | b :: bs, x :: env => (if b then x else none) :: ioVals bs env
  | _, _ => []
def runF (cal : Cal) (fuel : Nat) (f : Fd) (ds : List D) : R (D × List (Option D)) :=
  if ds.length = f.np then
    (evB cal fuel f.body (ds.map some ++ List.replicate (f.N.length - ds.length) none)).bind fun fl => match fl with
      | .rt d e => .ok (d, ioVals f.io e)
      | .nx e => .ok (.non, ioVals f.io e)
      | _ => .bad
  else .bad
/-- calls to the depth k -/
def callN (tbl : List Fd) (fuel : Nat) : Nat → Cal
  | 0 => fun _ _ => .bad
  | k + 1 => fun f ds => match tbl[f]? with
    | some fd => runF (callN tbl fuel k) fuel fd ds
    | none => .bad
end DL
/-! DL4: operators on values of the abstract heap do what they do on data. -/
namespace DL
open PySem PySem.Spec PyProof.Rows L2

/-- the heaps have grown, nothing that stood was touched -/
structure Ext (F H F' H' : Hp) : Prop where
  f : Same F F'
  h : Same H H'
  sub : Same F' H'
  n : ∀ a o, H a = some o → F a = none → F' a = none
theorem Ext.refl {F H : Hp} (s : Same F H) : Ext F H F H := ⟨Same.refl _, Same.refl _, s, fun _ _ _ e => e⟩
theorem Ext.new {F H : Hp} (s : Same F H) {p : Addr} {o : HO} (h : H p = none) : Ext F H F (upd H p o) :=
  ⟨Same.refl _, fun b x e => by rw [upd_ne (ne_of_none e h)]; exact e, fun b x e => by rw [upd_ne (ne_of_none (s b x e) h)]; exact s b x e, fun _ _ _ e => e⟩
/-- a new frozen object -/
theorem Ext.newF {F H : Hp} (s : Same F H) {p : Addr} {o : HO} (h : H p = none) : Ext F H (upd F p o) (upd H p o) := by
  have hf : F p = none := s.free h
  refine ⟨fun b x e => by rw [upd_ne (ne_of_none e hf)]; exact e, fun b x e => by rw [upd_ne (ne_of_none e h)]; exact e, fun b x e => ?_, fun b x e e' => by rw [upd_ne (ne_of_none e h)]; exact e'⟩
  by_cases q : b = p
  · subst q; rw [upd_same] at e ⊢; exact e
  · rw [upd_ne q] at e ⊢; exact s b x e

section
variable {K : PySem.W.Frag} {F H : Hp}
theorem RO.int_v {n : Nat} {i : Int} {v : V} {Z : AS} (h : RO K F H n (.int i) v Z) : v = .int i := by cases n <;> exact h
theorem RO.bl_v {n : Nat} {i : Bool} {v : V} {Z : AS} (h : RO K F H n (.bl i) v Z) : v = .bl i := by cases n <;> exact h
theorem RO.str_v {n : Nat} {i : Str} {v : V} {Z : AS} (h : RO K F H n (.str i) v Z) : v = .str i := by cases n <;> exact h
theorem RO.non_v {n : Nat} {v : V} {Z : AS} (h : RO K F H n .non v Z) : v = .non := by cases n <;> exact h
theorem RO.tup_v {n : Nat} {ds : List D} {v : V} {Z : AS} (h : RO K F H n (.tup ds) v Z) : Rp K F (.tup ds) v := by cases n <;> exact h
theorem RO.scr_v {n : Nat} {ns : List Int} {v : V} {Z : AS} (h : RO K F H n (.scr ns) v Z) : Rp K F (.scr ns) v := by cases n <;> exact h
theorem RO.int {n : Nat} {i : Int} {Z : AS} : RO K F H n (.int i) (.int i) Z := by cases n <;> exact rfl
theorem RO.bl {n : Nat} {i : Bool} {Z : AS} : RO K F H n (.bl i) (.bl i) Z := by cases n <;> exact rfl
theorem RO.str {n : Nat} {i : Str} {Z : AS} : RO K F H n (.str i) (.str i) Z := by cases n <;> exact rfl
theorem RO.non {n : Nat} {Z : AS} : RO K F H n .non .non Z := by cases n <;> exact rfl
theorem RO.tup {n : Nat} {ds : List D} {v : V} {Z : AS} (h : Rp K F (.tup ds) v) : RO K F H n (.tup ds) v Z := by cases n <;> exact h
/-- a list's items, if at most the list itself is owned -/
theorem RO.items {n : Nat} {ds : List D} {v : V} {Z : AS} (h : RO K F H n (.lst ds) v Z) (hn : n ≤ 1) (s : Same F H) : ∃ a xs, v = .ref a ∧ H a = some (.lst xs) ∧ RpL K F ds xs := by
  match n, h, hn with
  | 0, h, _ =>
    obtain ⟨a, xs, e, q, r⟩ := h
    exact ⟨a, xs, e, s _ _ q, r⟩
  | 1, h, _ =>
    obtain ⟨a, xs, T, e, q, _, _, hl, _, _, r⟩ := h
    exact ⟨a, xs, e, q, RpL.of hl r⟩
theorem RO.itemsK {n : Nat} {ds : List (Key × D)} {v : V} {Z : AS} (h : RO K F H n (.dic ds) v Z) (hn : n ≤ 1) (s : Same F H) : ∃ a xs, v = .ref a ∧ H a = some (.dK xs) ∧ RpK K F ds xs := by
  match n, h, hn with
  | 0, h, _ =>
    obtain ⟨a, xs, e, q, r⟩ := h
    exact ⟨a, xs, e, s _ _ q, r⟩
  | 1, h, _ =>
    obtain ⟨a, xs, T, e, q, _, _, hl, _, _, r⟩ := h
    exact ⟨a, xs, e, q, RpK.of hl r⟩
/-- a new list of frozen items -/
theorem RO.new {a : Addr} {xs : List V} {ds : List D} (h : H a = some (.lst xs)) (f : F a = none) (r : RpL K F ds xs) : RO K F H 1 (.lst ds) (.ref a) fun b => b = a :=
  ⟨a, xs, fun _ => noA, rfl, h, f, rfl, r.length, fun _ _ q => q.elim, fun _ _ _ q => q.elim, fun _ _ _ h1 h2 => r.get h1 h2⟩
end

/-- two values to one -/
def VOp2 (K : PySem.W.Frag) (al : Bool) (n : Nat) (f : D → D → Option D) (r : R2) : Prop :=
  ∀ (F H : Hp) (da db d : D) (va vb : V) (na nb : Nat) (Za Zb : AS), Same F H → RO K F H na da va Za → RO K F H nb db vb Zb → (al = true → na ≤ 1 ∧ nb ≤ 1) → f da db = some d →
    ∀ Q : VK, (∀ F' H' v Z, Ext F H F' H' → RO K F' H' n d v Z → (∀ a, Z a → H a = none ∧ ∃ o, H' a = some o) → Q v H') → r va vb H Q
def VOp1 (K : PySem.W.Frag) (al : Bool) (n : Nat) (f : D → Option D) (r : V → Hp → VK → Prop) : Prop :=
  ∀ (F H : Hp) (da d : D) (va : V) (na : Nat) (Za : AS), Same F H → RO K F H na da va Za → (al = true → na ≤ 1) → f da = some d →
    ∀ Q : VK, (∀ F' H' v Z, Ext F H F' H' → RO K F' H' n d v Z → (∀ a, Z a → H a = none ∧ ∃ o, H' a = some o) → Q v H') → r va H Q
section
variable {K : PySem.W.Frag}
theorem VOp2.or {al : Bool} {n : Nat} {f f1 f2 : D → D → Option D} {r1 r2 : R2} (h1 : VOp2 K al n f1 r1) (h2 : VOp2 K al n f2 r2) (h : ∀ a b d, f a b = some d → f1 a b = some d ∨ f2 a b = some d) : VOp2 K al n f (fun x y H Q => r1 x y H Q ∨ r2 x y H Q) :=
  fun F H da db d va vb na nb Za Zb s ra rb al e Q q => (h da db d e).imp (fun e => h1 F H da db d va vb na nb Za Zb s ra rb al e Q q) fun e => h2 F H da db d va vb na nb Za Zb s ra rb al e Q q
theorem VOp1.or {al : Bool} {n : Nat} {f f1 f2 : D → Option D} {r1 r2 : V → Hp → VK → Prop} (h1 : VOp1 K al n f1 r1) (h2 : VOp1 K al n f2 r2) (h : ∀ a d, f a = some d → f1 a = some d ∨ f2 a = some d) : VOp1 K al n f (fun x H Q => r1 x H Q ∨ r2 x H Q) :=
  fun F H da d va na Za s ra al e Q q => (h da d e).imp (fun e => h1 F H da d va na Za s ra al e Q q) fun e => h2 F H da d va na Za s ra al e Q q
abbrev noF2 : D → D → Option D := fun _ _ => none
/-- ints to an atom -/
def onI (C : Int → Int → Bool) (g : Int → Int → D) : D → D → Option D
  | .int i, .int j => if C i j then some (g i j) else none
  | _, _ => none
theorem onI_some {C : Int → Int → Bool} {g : Int → Int → D} {a b d : D} (h : onI C g a b = some d) : ∃ i j, a = .int i ∧ b = .int j ∧ C i j = true ∧ d = g i j := by
  cases a <;> cases b <;> simp [onI] at h
  rename_i i j
  exact ⟨i, j, rfl, rfl, h.1, h.2.symm⟩
theorem vo_int {C : Int → Int → Bool} {P : Int → Int → Prop} {g : Int → Int → Int} {n : Nat} {al : Bool} (hc : ∀ i j, C i j = true → P i j) : VOp2 K al n (onI C fun i j => .int (g i j)) (rI P fun i j => .int (g i j)) := by
  intro F H da db d va vb na nb Za Zb s ra rb _ e Q q
  obtain ⟨i, j, rfl, rfl, c, rfl⟩ := onI_some e
  exact ⟨i, j, ra.int_v, rb.int_v, hc i j c, q F H _ noA (Ext.refl s) RO.int fun _ z => z.elim⟩
theorem vo_int0 {g : Int → Int → Int} {n : Nat} {al : Bool} : VOp2 K al n (onI (fun _ _ => true) fun i j => .int (g i j)) (rI0 fun i j => .int (g i j)) := by
  intro F H da db d va vb na nb Za Zb s ra rb _ e Q q
  obtain ⟨i, j, rfl, rfl, c, rfl⟩ := onI_some e
  exact ⟨i, j, ra.int_v, rb.int_v, q F H _ noA (Ext.refl s) RO.int fun _ z => z.elim⟩
theorem vo_bl0 {g : Int → Int → Bool} {n : Nat} {al : Bool} : VOp2 K al n (onI (fun _ _ => true) fun i j => .bl (g i j)) (rI0 fun i j => .bl (g i j)) := by
  intro F H da db d va vb na nb Za Zb s ra rb _ e Q q
  obtain ⟨i, j, rfl, rfl, c, rfl⟩ := onI_some e
  exact ⟨i, j, ra.int_v, rb.int_v, q F H _ noA (Ext.refl s) RO.bl fun _ z => z.elim⟩
def onS : D → D → Option D
  | .str x, .str y => if x.length + y.length ≤ sizeLine then some (.str (x ++ y)) else none
  | _, _ => none
def onC : D → D → Option D
  | .lst x, .lst y => okL (x ++ y)
  | _, _ => none
theorem vo_addS {n : Nat} {al : Bool} : VOp2 K al n onS (fun x y H Q => ∃ i j, x = .str i ∧ y = .str j ∧ i.length + j.length ≤ sizeLine ∧ Q (.str (i ++ j)) H) := by
  intro F H da db d va vb na nb Za Zb s ra rb _ e Q q
  cases da <;> cases db <;> simp [onS] at e
  obtain ⟨c, rfl⟩ := e
  exact ⟨_, _, ra.str_v, rb.str_v, c, q F H _ noA (Ext.refl s) RO.str fun _ z => z.elim⟩
theorem vo_cat : VOp2 K true 1 onC rCat := by
  intro F H da db d va vb na nb Za Zb s ra rb al e Q q
  cases da <;> cases db <;> simp [onC, okL] at e
  obtain ⟨c, rfl⟩ := e
  obtain ⟨h1, h2⟩ := al rfl
  obtain ⟨a, xs, rfl, ea, r1⟩ := ra.items h1 s
  obtain ⟨b, ys, rfl, eb, r2⟩ := rb.items h2 s
  refine ⟨a, b, xs, ys, rfl, rfl, ea, eb, by rw [← r1.length, ← r2.length]; exact c, fun p hp => ?_⟩
  exact q F _ _ (fun b => b = p) (Ext.new s hp) (RO.new upd_same (s.free hp) (r1.append r2)) fun a e => by cases e; exact ⟨hp, _, upd_same⟩
/-- the rule of + -/
def rAdd : R2 := fun x y H Q => rI0 (fun i j => .int (i + j)) x y H Q ∨ ((∃ i j, x = .str i ∧ y = .str j ∧ i.length + j.length ≤ sizeLine ∧ Q (.str (i ++ j)) H) ∨ rCat x y H Q)
theorem vo_add : VOp2 K true 1 (opF2 .add) rAdd :=
  VOp2.or vo_int0 (VOp2.or (f := fun a b => (onS a b).or (onC a b)) vo_addS vo_cat fun a b d h => by
      cases e : onS a b with
      | none => rw [e] at h; exact .inr h
      | some x => rw [e] at h; exact .inl h) fun a b d h => by
    cases a <;> cases b <;> first | (simp [opF2] at h; done) | (simp only [opF2, onI, onS, onC] at h ⊢; first | exact .inl (by simpa using h) | exact .inr (by simpa using h))
def rMul : R2 := fun x y H Q => rI CMul (fun i j => .int (i * j)) x y H Q ∨ rI CMulW (fun i j => .int (i * j)) x y H Q
theorem vo_mul : VOp2 K true 1 (opF2 .mul) rMul :=
  VOp2.or (f1 := onI (fun i j => decide (i.natAbs < 18446744073709551616) || decide (j.natAbs < 18446744073709551616)) fun i j => .int (i * j)) (f2 := onI (fun i j => decide (i.natAbs.log2 + j.natAbs.log2 < 1000000)) fun i j => .int (i * j))
    (vo_int fun i j h => by
      rcases Bool.or_eq_true_iff.mp h with h | h
      · have := of_decide_eq_true h; exact .inl ⟨by omega, by omega⟩
      · have := of_decide_eq_true h; exact .inr ⟨by omega, by omega⟩) (vo_int fun i j h => (show i.natAbs.log2 + j.natAbs.log2 < 1000000 from of_decide_eq_true h)) fun a b d h => by
    cases a <;> cases b <;> simp [opF2] at h
    rename_i i j
    obtain ⟨c, rfl⟩ := h
    unfold mulOk at c
    rcases Bool.or_eq_true_iff.mp c with c | c
    · exact .inl (by simp only [onI]; rw [if_pos c])
    · exact .inr (by simp only [onI]; rw [if_pos c])
theorem vo_of {al : Bool} {n : Nat} {f f1 : D → D → Option D} {r : R2} (h1 : VOp2 K al n f1 r) (h : ∀ a b d, f a b = some d → f1 a b = some d) : VOp2 K al n f r :=
  fun F H da db d va vb na nb Za Zb s ra rb al e Q q => h1 F H da db d va vb na nb Za Zb s ra rb al (h da db d e) Q q
theorem vo_sub : VOp2 K true 1 (opF2 .sub) (rI0 fun i j => .int (i - j)) := vo_of vo_int0 fun a b d h => by cases a <;> cases b <;> simp [opF2] at h; simpa [onI] using h
theorem vo_fdiv : VOp2 K true 1 (opF2 .fdiv) (rI CDivW fun i j => .int (i / j)) := vo_of (vo_int (C := fun i j => decide (0 < j ∧ j.natAbs.log2 < 9000)) fun i j h => (show 0 < j ∧ j.natAbs.log2 < 9000 from of_decide_eq_true h)) fun a b d h => by
  cases a <;> cases b <;> simp [opF2] at h; simpa [onI] using h
theorem vo_mod : VOp2 K true 1 (opF2 .mod) (rI (fun _ j => 0 < j) fun i j => .int (i % j)) := vo_of (vo_int (C := fun i j => decide (0 < j)) fun i j h => of_decide_eq_true h) fun a b d h => by
  cases a <;> cases b <;> simp [opF2] at h; simpa [onI] using h
theorem vo_pow : VOp2 K true 1 (opF2 .pow) (rI CPow fun i j => .int (i ^ j.toNat)) := vo_of (vo_int (C := fun i j => decide (0 ≤ j ∧ j ≤ 1000000 ∧ i.natAbs < 18446744073709551616)) fun i j h => (show 0 ≤ j ∧ j ≤ 1000000 ∧ i.natAbs < 18446744073709551616 from of_decide_eq_true h)) fun a b d h => by
  cases a <;> cases b <;> simp [opF2] at h; simpa [onI] using h
theorem vo_shl : VOp2 K true 1 (opF2 .shl) (rI CPow fun i j => .int (i * 2 ^ j.toNat)) := vo_of (vo_int (C := fun i j => decide (0 ≤ j ∧ j ≤ 1000000 ∧ i.natAbs < 18446744073709551616)) fun i j h => (show 0 ≤ j ∧ j ≤ 1000000 ∧ i.natAbs < 18446744073709551616 from of_decide_eq_true h)) fun a b d h => by
  cases a <;> cases b <;> simp [opF2] at h; simpa [onI] using h
theorem vo_shr : VOp2 K true 1 (opF2 .shr) (rI (fun _ j => 0 ≤ j) fun i j => .int (i / 2 ^ j.toNat)) := vo_of (vo_int (C := fun i j => decide (0 ≤ j)) fun i j h => of_decide_eq_true h) fun a b d h => by
  cases a <;> cases b <;> simp [opF2] at h; simpa [onI] using h
theorem vo_bxor : VOp2 K true 1 (opF2 .bxor) (rI0 fun i j => .int (Builtin.bitXor i j)) := vo_of vo_int0 fun a b d h => by cases a <;> cases b <;> simp [opF2] at h; simpa [onI] using h
theorem vo_band : VOp2 K true 1 (opF2 .band) (rI0 fun i j => .int (Builtin.bitAnd i j)) := vo_of vo_int0 fun a b d h => by cases a <;> cases b <;> simp [opF2] at h; simpa [onI] using h
theorem vo_lt {n : Nat} {al : Bool} : VOp2 K al n (opF2 .lt) (rI0 fun i j => .bl (decide (i < j))) := vo_of vo_bl0 fun a b d h => by cases a <;> cases b <;> simp [opF2] at h; simpa [onI] using h
theorem vo_le {n : Nat} {al : Bool} : VOp2 K al n (opF2 .le) (rI0 fun i j => .bl (decide (i ≤ j))) := vo_of vo_bl0 fun a b d h => by cases a <;> cases b <;> simp [opF2] at h; simpa [onI] using h
theorem vo_gt {n : Nat} {al : Bool} : VOp2 K al n (opF2 .gt) (rI0 fun i j => .bl (decide (j < i))) := vo_of vo_bl0 fun a b d h => by cases a <;> cases b <;> simp [opF2] at h; simpa [onI] using h
theorem vo_ge {n : Nat} {al : Bool} : VOp2 K al n (opF2 .ge) (rI0 fun i j => .bl (decide (j ≤ i))) := vo_of vo_bl0 fun a b d h => by cases a <;> cases b <;> simp [opF2] at h; simpa [onI] using h
theorem lay_of {d : D} (h : shp d = true) : (toPy d).canLay0 = true := SeqAt.canLay_of_shaped h
theorem vo_eq {n : Nat} {al : Bool} : VOp2 K al n (opF2 .eq) (rEqD K) := by
  intro F H da db d va vb na nb Za Zb s ra rb _ e Q q
  have e' : (if shp da && shp db then some (D.bl (eqv da db)) else none) = some d := by cases da <;> cases db <;> exact e
  by_cases c : (shp da && shp db) = true
  · rw [if_pos c] at e'
    cases e'
    obtain ⟨c1, c2⟩ := Bool.and_eq_true_iff.mp c
    exact ⟨_, _, (ra.rd s).dp (lay_of c1), (rb.rd s).dp (lay_of c2), c1, c2, q F H _ noA (Ext.refl s) RO.bl fun _ z => z.elim⟩
  · rw [if_neg c] at e'; cases e'
theorem vo_ne {n : Nat} {al : Bool} : VOp2 K al n (opF2 .ne) (rNeD K) := by
  intro F H da db d va vb na nb Za Zb s ra rb _ e Q q
  have e' : (if shp da && shp db then some (D.bl (!eqv da db)) else none) = some d := by cases da <;> cases db <;> exact e
  by_cases c : (shp da && shp db) = true
  · rw [if_pos c] at e'
    cases e'
    obtain ⟨c1, c2⟩ := Bool.and_eq_true_iff.mp c
    exact ⟨_, _, (ra.rd s).dp (lay_of c1), (rb.rd s).dp (lay_of c2), c1, c2, q F H _ noA (Ext.refl s) RO.bl fun _ z => z.elim⟩
  · rw [if_neg c] at e'; cases e'
theorem any_toPy (a : D) : ∀ ds : List D, (toPyL ds).any (fun z => PyData.eqv z (toPy a)) = ds.any fun z => eqv z a
  | [] => rfl
  | d :: ds => by simp only [toPyL, List.any_cons, any_toPy a ds]; rfl
/-- in, not in: a list; a dict -/
def inL (neg : Bool) (a : D) : D → Option D
  | .lst ds => if shp a && shp (.lst ds) then some (.bl (if neg then !ds.any fun z => eqv z a else ds.any fun z => eqv z a)) else none
  | _ => none
def inD (neg : Bool) (a : D) : D → Option D
  | .dic kvs => (keyOf a).bind fun k => some (.bl (if neg then !(valD kvs k).isSome else (valD kvs k).isSome))
  | _ => none
theorem vo_inL {n : Nat} {al : Bool} : VOp2 K al n (inL false) (rInD K) := by
  intro F H da db d va vb na nb Za Zb s ra rb _ e Q q
  cases db <;> simp [inL] at e
  rename_i ds
  obtain ⟨⟨c1, c2⟩, rfl⟩ := e
  refine ⟨_, toPyL ds, (ra.rd s).dp (lay_of c1), (rb.rd s).dp (lay_of c2), c1, c2, ?_⟩
  rw [any_toPy]
  exact q F H _ noA (Ext.refl s) RO.bl fun _ z => z.elim
theorem vo_ninL {n : Nat} {al : Bool} : VOp2 K al n (inL true) (rNotInD K) := by
  intro F H da db d va vb na nb Za Zb s ra rb _ e Q q
  cases db <;> simp [inL] at e
  rename_i ds
  obtain ⟨⟨c1, c2⟩, rfl⟩ := e
  refine ⟨_, toPyL ds, (ra.rd s).dp (lay_of c1), (rb.rd s).dp (lay_of c2), c1, c2, ?_⟩
  rw [any_toPy]
  exact q F H _ noA (Ext.refl s) RO.bl fun _ z => z.elim
def inT (neg : Bool) (a : D) : D → Option D
  | .tup ds => if shp a && shp (.tup ds) then some (.bl (if neg then !ds.any (fun z => eqv z a) else ds.any fun z => eqv z a)) else none
  | _ => none
def rInT (K : PySem.W.Frag) : R2 := fun x y H Q => ∃ d ds, Dp K H x d ∧ Dp K H y (.tuple ds) ∧ SeqAt.shaped d = true ∧ SeqAt.shaped (.tuple ds) = true ∧ Q (.bl (ds.any fun z => PyData.eqv z d)) H
def rNotInT (K : PySem.W.Frag) : R2 := fun x y H Q => ∃ d ds, Dp K H x d ∧ Dp K H y (.tuple ds) ∧ SeqAt.shaped d = true ∧ SeqAt.shaped (.tuple ds) = true ∧ Q (.bl (!ds.any fun z => PyData.eqv z d)) H
theorem vo_inT {n : Nat} {al : Bool} : VOp2 K al n (inT false) (rInT K) := by
  intro F H da db d va vb na nb Za Zb s ra rb _ e Q q
  cases db <;> simp [inT] at e
  rename_i ds
  obtain ⟨⟨c1, c2⟩, rfl⟩ := e
  refine ⟨_, toPyL ds, (ra.rd s).dp (lay_of c1), (rb.rd s).dp (lay_of c2), c1, c2, ?_⟩
  rw [any_toPy]
  exact q F H _ noA (Ext.refl s) RO.bl fun _ z => z.elim
theorem vo_ninT {n : Nat} {al : Bool} : VOp2 K al n (inT true) (rNotInT K) := by
  intro F H da db d va vb na nb Za Zb s ra rb _ e Q q
  cases db <;> simp [inT] at e
  rename_i ds
  obtain ⟨⟨c1, c2⟩, rfl⟩ := e
  refine ⟨_, toPyL ds, (ra.rd s).dp (lay_of c1), (rb.rd s).dp (lay_of c2), c1, c2, ?_⟩
  rw [any_toPy]
  exact q F H _ noA (Ext.refl s) RO.bl fun _ z => z.elim
theorem vo_is {n : Nat} {al : Bool} : VOp2 K al n (opF2 .is) rIsB := by
  intro F H da db d va vb na nb Za Zb s ra rb _ e Q q
  cases da <;> cases db <;> simp [opF2] at e
  subst e
  exact ⟨_, _, ra.bl_v, rb.bl_v, q F H _ noA (Ext.refl s) RO.bl fun _ z => z.elim⟩
theorem vo_nis {n : Nat} {al : Bool} : VOp2 K al n (opF2 .nis) rNotB := by
  intro F H da db d va vb na nb Za Zb s ra rb _ e Q q
  cases da <;> cases db <;> simp [opF2] at e
  subst e
  exact ⟨_, _, ra.bl_v, rb.bl_v, q F H _ noA (Ext.refl s) RO.bl fun _ z => z.elim⟩
theorem key_v {d : D} {k : Key} {n : Nat} {F H : Hp} {v : V} {Z : AS} (h : keyOf d = some k) (r : RO K F H n d v Z) : v = kV k := by
  cases d <;> simp [keyOf] at h <;> subst h
  · exact r.int_v
  · exact r.str_v
theorem valD_rp {κ : Type} [DecidableEq κ] {P : D → V → Prop} : ∀ {ds : List (κ × D)} {xs : List (κ × V)}, ds.length = xs.length → (∀ (i : Nat) (p : κ × D) (q : κ × V), ds[i]? = some p → xs[i]? = some q → p.1 = q.1 ∧ P p.2 q.2) →
    ∀ k, (valD ds k = none ∧ valV xs k = none) ∨ ∃ d v, valD ds k = some d ∧ valV xs k = some v ∧ P d v
  | [], [], _, _, k => .inl ⟨rfl, rfl⟩
  | [], _ :: _, h, _, _ => by simp at h
  | _ :: _, [], h, _, _ => by simp at h
  | (a, d) :: ds, (b, v) :: xs, h, g, k => by
    obtain ⟨e, p⟩ := g 0 _ _ rfl rfl
    have e : a = b := e
    subst e
    by_cases q : a = k
    · exact .inr ⟨d, v, by simp [valD, List.find?_cons, q], by simp [valV, List.find?_cons, q], p⟩
    · have e1 : valD ((a, d) :: ds) k = valD ds k := by simp [valD, List.find?_cons, q]
      have e2 : valV ((a, v) :: xs) k = valV xs k := by simp [valV, List.find?_cons, q]
      rw [e1, e2]
      exact valD_rp (by simpa using h) (fun i p q h1 h2 => g (i + 1) p q (by simpa using h1) (by simpa using h2)) k
theorem valD_some {κ : Type} [DecidableEq κ] {P : D → V → Prop} {ds : List (κ × D)} {xs : List (κ × V)} (hl : ds.length = xs.length) (g : ∀ (i : Nat) (p : κ × D) (q : κ × V), ds[i]? = some p → xs[i]? = some q → p.1 = q.1 ∧ P p.2 q.2) (k : κ) : (valV xs k).isSome = (valD ds k).isSome := by
  rcases valD_rp hl g k with ⟨a, b⟩ | ⟨d, v, a, b, _⟩ <;> rw [a, b] <;> rfl
theorem RO.dicR {n : Nat} {F H : Hp} {ds : List (Key × D)} {v : V} {Z : AS} (h : RO K F H n (.dic ds) v Z) (s : Same F H) : ∃ a xs, v = .ref a ∧ H a = some (.dK xs) ∧ RpK K H ds xs := h.rd s
def rInDK : R2 := fun y x H Q => ∃ a o, x = .ref a ∧ DGet H a y o ∧ Q (.bl o.isSome) H
def rNinDK : R2 := fun y x H Q => ∃ a o, x = .ref a ∧ DGet H a y o ∧ Q (.bl (!o.isSome)) H
theorem vo_inD {n : Nat} {al : Bool} : VOp2 K al n (inD false) rInDK := by
  intro F H da db d va vb na nb Za Zb s ra rb _ e Q q
  cases db <;> simp [inD, Option.bind_eq_some_iff] at e
  obtain ⟨k, hk, rfl⟩ := e
  obtain ⟨a, xs, rfl, ea, r⟩ := rb.dicR s
  rw [key_v hk ra]
  refine ⟨a, _, rfl, DGet.k ea, ?_⟩
  rw [valD_some r.length fun i p q h1 h2 => r.get h1 h2]
  exact q F H _ noA (Ext.refl s) RO.bl fun _ z => z.elim
theorem vo_ninD {n : Nat} {al : Bool} : VOp2 K al n (inD true) rNinDK := by
  intro F H da db d va vb na nb Za Zb s ra rb _ e Q q
  cases db <;> simp [inD, Option.bind_eq_some_iff] at e
  obtain ⟨k, hk, rfl⟩ := e
  obtain ⟨a, xs, rfl, ea, r⟩ := rb.dicR s
  rw [key_v hk ra]
  refine ⟨a, _, rfl, DGet.k ea, ?_⟩
  rw [valD_some r.length fun i p q h1 h2 => r.get h1 h2]
  refine q F H _ noA (Ext.refl s) ?_ fun _ z => z.elim
  cases (valD _ k) <;> exact RO.bl
theorem inn_or {a b d : D} (h : opF2 .inn a b = some d) : inL false a b = some d ∨ inT false a b = some d ∨ inD false a b = some d := by
  cases b
  case lst ds => exact .inl (by cases a <;> exact h)
  case tup ds => exact .inr (.inl (by cases a <;> exact h))
  case dic ds => exact .inr (.inr (by cases a <;> exact h))
  all_goals (cases a <;> cases h)
theorem nin_or {a b d : D} (h : opF2 .nin a b = some d) : inL true a b = some d ∨ inT true a b = some d ∨ inD true a b = some d := by
  cases b
  case lst ds => exact .inl (by cases a <;> exact h)
  case tup ds => exact .inr (.inl (by cases a <;> exact h))
  case dic ds => exact .inr (.inr (by cases a <;> exact h))
  all_goals (cases a <;> cases h)
theorem VOp2.or3 {al : Bool} {n : Nat} {f f1 f2 f3 : D → D → Option D} {r1 r2 r3 : R2} (h1 : VOp2 K al n f1 r1) (h2 : VOp2 K al n f2 r2) (h3 : VOp2 K al n f3 r3) (h : ∀ a b d, f a b = some d → f1 a b = some d ∨ f2 a b = some d ∨ f3 a b = some d) : VOp2 K al n f (fun x y H Q => r1 x y H Q ∨ (r2 x y H Q ∨ r3 x y H Q)) := by
  intro F H da db d va vb na nb Za Zb s ra rb l e Q q
  rcases h _ _ _ e with e | e | e
  · exact .inl (h1 F H da db d va vb na nb Za Zb s ra rb l e Q q)
  · exact .inr (.inl (h2 F H da db d va vb na nb Za Zb s ra rb l e Q q))
  · exact .inr (.inr (h3 F H da db d va vb na nb Za Zb s ra rb l e Q q))
/-! subscripts -/
theorem atI_rp {P : D → V → Prop} {ds : List D} {xs : List V} (hl : ds.length = xs.length) (g : ∀ (i : Nat) (p : D) (q : V), ds[i]? = some p → xs[i]? = some q → P p q) {i : Int} {d : D} (h : atI ds i = some d) : ∃ v, atI xs i = some v ∧ P d v := by
  unfold atI at h ⊢
  rw [← hl]
  cases e : ixN ds.length i with
  | none => rw [e] at h; simp at h
  | some j =>
    rw [e] at h
    simp only [Option.bind_some] at h ⊢
    obtain ⟨hj, _⟩ := List.getElem?_eq_some_iff.mp h
    have : j < xs.length := by omega
    exact ⟨xs[j], List.getElem?_eq_getElem this, g j _ _ h (List.getElem?_eq_getElem this)⟩
def ixF : D → D → Option D
  | .lst ds, .int i => atI ds i
  | .tup ds, .int i => atI ds i
  | .scr ns, .int i => (atI ns i).map .int
  | .str s, .int i => if s.length ≤ sizeLine then (atI s.cps.toList i).bind fun c => some (.str ⟨#[c]⟩) else none
  | _, _ => none
def ixD : D → D → Option D
  | .dic kvs, a => (keyOf a).bind fun k => valD kvs k
  | _, _ => none
theorem ix_or {a b d : D} (h : opF2 .idx a b = some d) : ixF a b = some d ∨ ixD a b = some d := by
  cases a
  case dic kvs => exact .inr (by cases b <;> exact h)
  case lst ds => cases b <;> first | exact .inl h | cases h
  case tup ds => cases b <;> first | exact .inl h | cases h
  case scr ds => cases b <;> first | exact .inl h | cases h
  case str ds => cases b <;> first | exact .inl h | cases h
  all_goals (cases b <;> cases h)
theorem vo_ix : VOp2 K true 0 ixF (rIx K) := by
  intro F H da db d va vb na nb Za Zb s ra rb al e Q q
  obtain ⟨h1, _⟩ := al rfl
  cases da <;> cases db <;> simp [ixF, Option.bind_eq_some_iff] at e
  · rename_i z i
    obtain ⟨c, x, hx, rfl⟩ := e
    exact .inr (.inr ⟨z, i, x, ra.str_v, rb.int_v, c, hx, q F H _ noA (Ext.refl s) RO.str fun _ z => z.elim⟩)
  · rename_i ds i
    obtain ⟨a, xs, rfl, ea, r⟩ := ra.items h1 s
    obtain ⟨v, hv, rv⟩ := atI_rp r.length (fun i p q h1 h2 => r.get h1 h2) e
    exact .inl ⟨a, xs, i, v, rfl, rb.int_v, .inl (.inl ea), hv, q F H _ noA (Ext.refl s) rv fun _ z => z.elim⟩
  · rename_i ds i
    obtain ⟨a, xs, rfl, ea, r⟩ := ra.tup_v
    obtain ⟨v, hv, rv⟩ := atI_rp r.length (fun i p q h1 h2 => r.get h1 h2) e
    exact .inr (.inl ⟨a, xs, i, v, rfl, rb.int_v, same_seqT s ea, hv, q F H _ noA (Ext.refl s) rv fun _ z => z.elim⟩)
  · rename_i ns i
    obtain ⟨a, rfl, ea⟩ := ra.scr_v
    obtain ⟨m, hm, rfl⟩ := e
    refine .inl ⟨a, _, i, .int m, rfl, rb.int_v, s.seq ea, ?_, q F H _ noA (Ext.refl s) rfl fun _ z => z.elim⟩
    obtain ⟨v, hv, rv⟩ := atI_rp (P := fun d v => ∀ n, d = D.int n → v = V.int n) (ds := ns.map D.int) (xs := ns.map V.int) (by simp) (fun i p q h1 h2 n hn => by
      subst hn
      rw [List.getElem?_map] at h1 h2
      cases e : ns[i]? with
      | none => rw [e] at h1; simp at h1
      | some z => rw [e] at h1 h2; simp at h1 h2; subst h1; exact h2.symm) (i := i) (d := D.int m) (by
        unfold atI at hm ⊢
        rw [List.length_map]
        cases e : ixN ns.length i with
        | none => rw [e] at hm; simp at hm
        | some j => rw [e] at hm; simp only [Option.bind_some, List.getElem?_map] at hm ⊢; rw [hm]; rfl)
    rw [hv, rv m rfl]
def rIxDK : R2 := fun x y H Q => ∃ a v, x = .ref a ∧ DGet H a y (some v) ∧ Q v H
theorem vo_ixD : VOp2 K true 0 ixD rIxDK := by
  intro F H da db d va vb na nb Za Zb s ra rb al e Q q
  obtain ⟨h1, _⟩ := al rfl
  cases da <;> simp [ixD, Option.bind_eq_some_iff] at e
  obtain ⟨k, hk, e⟩ := e
  obtain ⟨a, xs, rfl, ea, r⟩ := ra.itemsK h1 s
  rcases valD_rp r.length (fun i p q h1 h2 => r.get h1 h2) k with ⟨z, _⟩ | ⟨d', v, z1, z2, rv⟩
  · rw [z] at e; cases e
  · rw [z1] at e; cases e
    rw [key_v hk rb]
    exact ⟨a, v, rfl, z2 ▸ DGet.k ea, q F H _ noA (Ext.refl s) rv fun _ z => z.elim⟩
end
end DL
/-! DL5: built-in functions on values. -/
namespace DL
open PySem PySem.Spec PyProof.Rows L2

section
variable {K : PySem.W.Frag}
theorem vo1_of {al : Bool} {n : Nat} {f f1 : D → Option D} {r : V → Hp → VK → Prop} (h1 : VOp1 K al n f1 r) (h : ∀ a d, f a = some d → f1 a = some d) : VOp1 K al n f r :=
  fun F H da d va na Za s ra al e Q q => h1 F H da d va na Za s ra al (h da d e) Q q
theorem vo_neg {n : Nat} {al : Bool} : VOp1 K al n (opF1 .neg) (rU fun i => .int (-i)) := by
  intro F H da d va na Za s ra _ e Q q
  cases da <;> simp [opF1] at e
  subst e
  exact ⟨_, ra.int_v, q F H _ noA (Ext.refl s) RO.int fun _ z => z.elim⟩
def rIsN1 : V → Hp → VK → Prop := fun x H Q => Q (.bl (decide (x = .non))) H
def rNotN1 : V → Hp → VK → Prop := fun x H Q => Q (.bl (!decide (x = .non))) H
def isNonD : D → Bool
  | .non => true
  | _ => false
theorem RO.isN {n : Nat} {F H : Hp} {d : D} {v : V} {Z : AS} (h : RO K F H n d v Z) : decide (v = .non) = isNonD d := by
  cases n with
  | zero =>
    cases d with
    | non => cases (show v = _ from h); rfl
    | bl _ => cases (show v = _ from h); rfl
    | int _ => cases (show v = _ from h); rfl
    | str _ => cases (show v = _ from h); rfl
    | lst _ => obtain ⟨a, xs, rfl, _⟩ := h; rfl
    | tup _ => obtain ⟨a, xs, rfl, _⟩ := h; rfl
    | dic _ => obtain ⟨a, xs, rfl, _⟩ := h; rfl
    | dit _ => obtain ⟨a, xs, rfl, _⟩ := h; rfl
    | scr _ => obtain ⟨a, rfl, _⟩ := h; rfl
  | succ n =>
    cases d with
    | non => cases (show v = _ from h); rfl
    | bl _ => cases (show v = _ from h); rfl
    | int _ => cases (show v = _ from h); rfl
    | str _ => cases (show v = _ from h); rfl
    | lst _ => obtain ⟨a, xs, T, rfl, _⟩ := h; rfl
    | tup _ => obtain ⟨a, xs, rfl, _⟩ := h; rfl
    | dic _ => obtain ⟨a, xs, T, rfl, _⟩ := h; rfl
    | dit _ => obtain ⟨a, xs, T, rfl, _⟩ := h; rfl
    | scr _ => obtain ⟨a, rfl, _⟩ := h; rfl
theorem vo_isN {n : Nat} {al : Bool} : VOp1 K al n (opF1 .isN) rIsN1 := by
  intro F H da d va na Za s ra _ e Q q
  unfold rIsN1
  rw [ra.isN]
  have : d = .bl (isNonD da) := by cases da <;> simp [opF1] at e <;> subst e <;> rfl
  subst this
  exact q F H _ noA (Ext.refl s) RO.bl fun _ z => z.elim
theorem vo_notN {n : Nat} {al : Bool} : VOp1 K al n (opF1 .notN) rNotN1 := by
  intro F H da d va na Za s ra _ e Q q
  unfold rNotN1
  rw [ra.isN]
  have : d = .bl (!isNonD da) := by cases da <;> simp [opF1] at e <;> subst e <;> rfl
  subst this
  exact q F H _ noA (Ext.refl s) RO.bl fun _ z => z.elim
def rRev1 (K : PySem.W.Frag) : V → Hp → VK → Prop := fun x H1 Q => ∃ a xs, x = .ref a ∧ SqL K H1 a xs ∧ ∀ p, H1 p = none → Q (.ref p) (upd H1 p (.lst xs.reverse))
theorem vo_rev : VOp1 K true 1 (opF1 .rev) (rRev1 K) := by
  intro F H da d va na Za s ra al e Q q
  cases da <;> simp [opF1] at e
  subst e
  obtain ⟨a, xs, rfl, ea, r⟩ := ra.items (al rfl) s
  exact ⟨a, xs, rfl, .inl (.inl ea), fun p hp => q F _ _ (fun b => b = p) (Ext.new s hp) (RO.new upd_same (s.free hp) r.reverse) fun a e => by cases e; exact ⟨hp, _, upd_same⟩⟩

/-! ### len -/
theorem RO.rdL {n : Nat} {F H : Hp} {ds : List D} {v : V} {Z : AS} (h : RO K F H n (.lst ds) v Z) (s : Same F H) : ∃ a xs, v = .ref a ∧ H a = some (.lst xs) ∧ RpL K H ds xs := h.rd s
def lenSeq : D → Option D
  | .lst ds => some (.int ds.length)
  | .tup ds => some (.int ds.length)
  | .scr ns => some (.int ns.length)
  | _ => none
def lenS : D → Option D
  | .str s => if s.length ≤ sizeLine then some (.int s.length) else none
  | _ => none
def lenD : D → Option D
  | .dic kvs => some (.int kvs.length)
  | _ => none
abbrev rLenSeq (K : PySem.W.Frag) : List V → Hp → VK → Prop := fun xs H Q => ∃ p ys, xs = [.ref p] ∧ (SqL K H p ys ∨ SqT K H p ys) ∧ Q (.int ys.length) H
abbrev rLenS : List V → Hp → VK → Prop := fun xs H Q => ∃ z, xs = [.str z] ∧ z.length ≤ sizeLine ∧ Q (.int z.length) H
abbrev rLenD : List V → Hp → VK → Prop := fun xs H Q => ∃ a kvs, xs = [V.ref a] ∧ H a = some (.dK kvs) ∧ Q (.int kvs.length) H
abbrev one (r : List V → Hp → VK → Prop) : V → Hp → VK → Prop := fun x H Q => r [x] H Q
abbrev two (r : List V → Hp → VK → Prop) : R2 := fun x y H Q => r [x, y] H Q
theorem vo_lenSeq {n : Nat} {al : Bool} : VOp1 K al n lenSeq (one (rLenSeq K)) := by
  intro F H da d va na Za s ra _ e Q q
  cases da <;> simp [lenSeq] at e <;> subst e
  · obtain ⟨a, xs, rfl, ea, r⟩ := ra.rdL s
    exact ⟨a, xs, rfl, .inl (.inl (.inl ea)), by rw [← r.length]; exact q F H _ noA (Ext.refl s) RO.int fun _ z => z.elim⟩
  · obtain ⟨a, xs, rfl, ea, r⟩ := ra.tup_v
    exact ⟨a, xs, rfl, .inr (same_seqT s ea), by rw [← r.length]; exact q F H _ noA (Ext.refl s) RO.int fun _ z => z.elim⟩
  · obtain ⟨a, rfl, ea⟩ := ra.scr_v
    exact ⟨a, _, rfl, .inl (s.seq ea), by rw [List.length_map]; exact q F H _ noA (Ext.refl s) RO.int fun _ z => z.elim⟩
theorem vo_lenS {n : Nat} {al : Bool} : VOp1 K al n lenS (one rLenS) := by
  intro F H da d va na Za s ra _ e Q q
  cases da <;> simp [lenS] at e
  obtain ⟨c, rfl⟩ := e
  exact ⟨_, by rw [ra.str_v], c, q F H _ noA (Ext.refl s) RO.int fun _ z => z.elim⟩
theorem vo_lenD {n : Nat} {al : Bool} : VOp1 K al n lenD (one rLenD) := by
  intro F H da d va na Za s ra _ e Q q
  cases da <;> simp [lenD] at e
  subst e
  obtain ⟨a, xs, rfl, ea, r⟩ := ra.dicR s
  exact ⟨a, xs, rfl, ea, by rw [← r.length]; exact q F H _ noA (Ext.refl s) RO.int fun _ z => z.elim⟩
abbrev rLen (K : PySem.W.Frag) : List V → Hp → VK → Prop := fun xs H Q => rLenSeq K xs H Q ∨ (rLenS xs H Q ∨ rLenD xs H Q)
theorem vo_len {n : Nat} {al : Bool} : VOp1 K al n (b1F .len) (one (rLen K)) :=
  VOp1.or vo_lenSeq (VOp1.or (f := fun a => (lenS a).or (lenD a)) vo_lenS vo_lenD fun a d h => by
    cases e : lenS a with
    | none => rw [e] at h; exact .inr h
    | some x => rw [e] at h; exact .inl h) fun a d h => by
    cases a
    case lst => exact .inl h
    case tup => exact .inl h
    case scr => exact .inl h
    case dic => exact .inr h
    case str x => exact .inr (by
      show (lenS (.str x)).or none = some d
      rw [show lenS (.str x) = some d from h]
      rfl)
    all_goals cases h

/-! ### list, tuple -/
abbrev rList (K : PySem.W.Frag) : List V → Hp → VK → Prop := fun xs H Q => ∃ p ys, xs = [.ref p] ∧ (SqL K H p ys ∨ SqT K H p ys) ∧ ∀ l, H l = none → Q (.ref l) (upd H l (.lst ys))
theorem ints_rp {F : Hp} : ∀ ns : List Int, RpL K F (ns.map D.int) (ns.map V.int)
  | [] => rfl
  | n :: ns => ⟨_, _, rfl, rfl, ints_rp ns⟩
theorem vo_list : VOp1 K true 1 (b1F .list) (one (rList K)) := by
  intro F H da d va na Za s ra al e Q q
  cases da <;> simp [b1F, Option.bind_eq_some_iff] at e <;> subst e
  · obtain ⟨a, xs, rfl, ea, r⟩ := ra.items (al rfl) s
    exact ⟨a, xs, rfl, .inl (.inl (.inl ea)), fun p hp => q F _ _ (fun b => b = p) (Ext.new s hp) (RO.new upd_same (s.free hp) r) fun a e => by cases e; exact ⟨hp, _, upd_same⟩⟩
  · obtain ⟨a, xs, rfl, ea, r⟩ := ra.tup_v
    exact ⟨a, xs, rfl, .inr (same_seqT s ea), fun p hp => q F _ _ (fun b => b = p) (Ext.new s hp) (RO.new upd_same (s.free hp) r) fun a e => by cases e; exact ⟨hp, _, upd_same⟩⟩
  · obtain ⟨a, rfl, ea⟩ := ra.scr_v
    exact ⟨a, _, rfl, .inl (s.seq ea), fun p hp => q F _ _ (fun b => b = p) (Ext.new s hp) (RO.new upd_same (s.free hp) (ints_rp _)) fun a e => by cases e; exact ⟨hp, _, upd_same⟩⟩
abbrev rTuple (K : PySem.W.Frag) : List V → Hp → VK → Prop := fun xs H Q => ∃ p ys, xs = [.ref p] ∧ ((SqL K H p ys ∧ ∀ l, H l = none → Q (.ref l) (upd H l (.tup ys))) ∨ (SqT K H p ys ∧ Q (.ref p) H))
theorem vo_tuple : VOp1 K true 1 (b1F .tuple) (one (rTuple K)) := by
  intro F H da d va na Za s ra al e Q q
  cases da <;> simp [b1F, Option.bind_eq_some_iff] at e <;> subst e
  · obtain ⟨a, xs, rfl, ea, r⟩ := ra.items (al rfl) s
    refine ⟨a, xs, rfl, .inl ⟨.inl (.inl ea), fun p hp => ?_⟩⟩
    exact q (upd F p (.tup xs)) _ _ noA (Ext.newF s hp) (RO.tup ⟨p, xs, rfl, .inl (.inl upd_same), r.mono (Ext.newF s hp).f⟩) fun _ z => z.elim
  · obtain ⟨a, xs, rfl, ea, r⟩ := ra.tup_v
    exact ⟨a, xs, rfl, .inr ⟨same_seqT s ea, q F H _ noA (Ext.refl s) (RO.tup ⟨a, xs, rfl, ea, r⟩) fun _ z => z.elim⟩⟩

/-! ### lists of ints, of truth values -/
theorem intsOf_rp {F : Hp} : ∀ {ds : List D} {ns : List Int} {xs : List V}, intsOf ds = some ns → RpL K F ds xs → xs = ns.map V.int
  | [], ns, xs, h, r => by cases h; exact r
  | d :: ds, ns, xs, h, ⟨v, vs, e, rv, r⟩ => by
    cases d <;> simp [intsOf] at h
    obtain ⟨m, hm, rfl⟩ := h
    subst e
    rw [show v = V.int _ from rv, intsOf_rp hm r]
    rfl
theorem blsOf_rp {F : Hp} : ∀ {ds : List D} {ns : List Bool} {xs : List V}, blsOf ds = some ns → RpL K F ds xs → xs = ns.map V.bl
  | [], ns, xs, h, r => by cases h; exact r
  | d :: ds, ns, xs, h, ⟨v, vs, e, rv, r⟩ => by
    cases d <;> simp [blsOf] at h
    obtain ⟨m, hm, rfl⟩ := h
    subst e
    rw [show v = V.bl _ from rv, blsOf_rp hm r]
    rfl
theorem vo_sum {n : Nat} {al : Bool} : VOp1 K al n (b1F .sum) (one (rSum K)) := by
  intro F H da d va na Za s ra _ e Q q
  cases da <;> simp [b1F, Option.bind_eq_some_iff] at e
  obtain ⟨ns, hn, rfl⟩ := e
  obtain ⟨a, xs, rfl, ea, r⟩ := ra.rdL s
  have := intsOf_rp hn r
  subst this
  exact ⟨a, ns, rfl, .inl (.inl ea), q F H _ noA (Ext.refl s) RO.int fun _ z => z.elim⟩
theorem vo_all {n : Nat} {al : Bool} : VOp1 K al n (b1F .all) (one (rAll K)) := by
  intro F H da d va na Za s ra _ e Q q
  cases da <;> simp [b1F, Option.bind_eq_some_iff] at e
  obtain ⟨ns, hn, rfl⟩ := e
  obtain ⟨a, xs, rfl, ea, r⟩ := ra.rdL s
  have := blsOf_rp hn r
  subst this
  exact ⟨a, ns, rfl, .inl (.inl ea), q F H _ noA (Ext.refl s) RO.bl fun _ z => z.elim⟩
theorem vo_any {n : Nat} {al : Bool} : VOp1 K al n (b1F .any) (one (rAny K)) := by
  intro F H da d va na Za s ra _ e Q q
  cases da <;> simp [b1F, Option.bind_eq_some_iff] at e
  obtain ⟨ns, hn, rfl⟩ := e
  obtain ⟨a, xs, rfl, ea, r⟩ := ra.rdL s
  have := blsOf_rp hn r
  subst this
  exact ⟨a, ns, rfl, .inl (.inl ea), q F H _ noA (Ext.refl s) RO.bl fun _ z => z.elim⟩
theorem leastI_of : ∀ {ns : List Int} {m : Int}, m ∈ ns → (∀ y ∈ ns, m ≤ y) → leastI ns = some m
  | [], _, h, _ => by simp at h
  | [x], m, h, _ => by simp at h; subst h; rfl
  | x :: y :: r, m, h, g => by
    have base : ∀ z ∈ y :: r, m ≤ z := fun z hz => g z (List.mem_cons_of_mem _ hz)
    show (leastI (y :: r)).map (fun m => if m < x then m else x) = some m
    by_cases hm : m ∈ y :: r
    · rw [leastI_of hm base]
      have := g x List.mem_cons_self
      simp only [Option.map_some, Option.some.injEq]
      split <;> omega
    · have hx : m = x := by
        rcases List.mem_cons.mp h with h | h
        · exact h
        · exact absurd h hm
      subst hx
      obtain ⟨k, hk, hk2⟩ : ∃ k, k ∈ y :: r ∧ ∀ z ∈ y :: r, k ≤ z := by
        clear hm base h g
        induction r generalizing y with
        | nil => exact ⟨y, by simp, fun z hz => by simp at hz; omega⟩
        | cons w r ih =>
          obtain ⟨k, h1, h2⟩ := ih w
          by_cases hy : y ≤ k
          · exact ⟨y, by simp, fun z hz => by
              rcases List.mem_cons.mp hz with rfl | hz
              · omega
              · have := h2 z hz; omega⟩
          · exact ⟨k, List.mem_cons_of_mem _ h1, fun z hz => by
              rcases List.mem_cons.mp hz with rfl | hz
              · omega
              · exact h2 z hz⟩
      rw [leastI_of hk hk2]
      have h1 := base k hk
      have h2 : k ≠ m := fun e => hm (e ▸ hk)
      simp only [Option.map_some, Option.some.injEq]
      split <;> omega
  termination_by ns => ns.length
theorem mostI_of {ns : List Int} {m : Int} (h : m ∈ ns) (g : ∀ y ∈ ns, y ≤ m) : mostI ns = some m := by
  have key : ∀ l : List Int, mostI l = (leastI (l.map fun x => -x)).map fun x => -x := by
    intro l
    match l with
    | [] => rfl
    | [x] => simp [mostI, leastI]
    | x :: y :: r =>
      have ih : mostI (y :: r) = (leastI ((y :: r).map fun x => -x)).map fun x => -x := by
        generalize hl : y :: r = l'
        induction l' generalizing y r with
        | nil => rfl
        | cons a l'' ih =>
          cases l'' with
          | nil => simp [mostI, leastI]
          | cons b l3 =>
            have := ih b l3 rfl
            show (mostI (b :: l3)).map (fun m => if a < m then m else a) = ((leastI ((b :: l3).map fun x => -x)).map (fun m => if m < -a then m else -a)).map fun x => -x
            rw [this]
            cases leastI ((b :: l3).map fun x => -x) with
            | none => rfl
            | some z => simp only [Option.map_some, Option.some.injEq]; split <;> split <;> omega
      show (mostI (y :: r)).map (fun m => if x < m then m else x) = ((leastI ((y :: r).map fun x => -x)).map (fun m => if m < -x then m else -x)).map fun x => -x
      rw [ih]
      cases leastI ((y :: r).map fun x => -x) with
      | none => rfl
      | some z => simp only [Option.map_some, Option.some.injEq]; split <;> split <;> omega
  rw [key, leastI_of (m := -m) (List.mem_map.mpr ⟨m, h, rfl⟩) fun y hy => by
    obtain ⟨z, hz, rfl⟩ := List.mem_map.mp hy
    have := g z hz
    omega]
  simp
theorem vo_min {n : Nat} {al : Bool} : VOp1 K al n (b1F .min) (one (rMin K)) := by
  intro F H da d va na Za s ra _ e Q q
  cases da <;> simp [b1F, Option.bind_eq_some_iff] at e
  obtain ⟨ns, hn, m, hm, rfl⟩ := e
  obtain ⟨a, xs, rfl, ea, r⟩ := ra.rdL s
  have := intsOf_rp hn r
  subst this
  refine ⟨a, ns, rfl, .inl (.inl ea), ?_, fun k h1 h2 => ?_⟩
  · cases ns with
    | nil => cases hm
    | cons _ _ => simp
  · rw [leastI_of h1 h2] at hm
    cases hm
    exact q F H _ noA (Ext.refl s) RO.int fun _ z => z.elim
theorem vo_max {n : Nat} {al : Bool} : VOp1 K al n (b1F .max) (one (rMax K)) := by
  intro F H da d va na Za s ra _ e Q q
  cases da <;> simp [b1F, Option.bind_eq_some_iff] at e
  obtain ⟨ns, hn, m, hm, rfl⟩ := e
  obtain ⟨a, xs, rfl, ea, r⟩ := ra.rdL s
  have := intsOf_rp hn r
  subst this
  refine ⟨a, ns, rfl, .inl (.inl ea), ?_, fun k h1 h2 => ?_⟩
  · cases ns with
    | nil => cases hm
    | cons _ _ => simp
  · rw [mostI_of h1 h2] at hm
    cases hm
    exact q F H _ noA (Ext.refl s) RO.int fun _ z => z.elim
theorem insI_perm (x : Int) : ∀ l : List Int, (insI x l).Perm (x :: l)
  | [] => List.Perm.refl _
  | y :: ys => by
    unfold insI
    split
    · exact List.Perm.refl _
    · exact (List.Perm.cons y (insI_perm x ys)).trans (List.Perm.swap x y ys)
theorem sortI_perm : ∀ l : List Int, (sortI l).Perm l
  | [] => List.Perm.refl _
  | x :: xs => (insI_perm x _).trans (List.Perm.cons x (sortI_perm xs))
theorem insI_sorted (x : Int) : ∀ {l : List Int}, l.Pairwise (· ≤ ·) → (insI x l).Pairwise (· ≤ ·)
  | [], _ => by simp [insI]
  | y :: ys, h => by
    unfold insI
    split
    · rename_i c
      refine List.pairwise_cons.mpr ⟨fun z hz => ?_, h⟩
      rcases List.mem_cons.mp hz with rfl | hz
      · exact c
      · have := (List.pairwise_cons.mp h).1 z hz; omega
    · rename_i c
      refine List.pairwise_cons.mpr ⟨fun z hz => ?_, insI_sorted x (List.pairwise_cons.mp h).2⟩
      rcases List.mem_cons.mp ((insI_perm x ys).mem_iff.mp hz) with rfl | hz
      · omega
      · exact (List.pairwise_cons.mp h).1 z hz
theorem sortI_sorted : ∀ l : List Int, (sortI l).Pairwise (· ≤ ·)
  | [] => List.Pairwise.nil
  | x :: xs => insI_sorted x (sortI_sorted xs)
theorem sortI_only {ns ms : List Int} (h : ms.Perm ns) (g : ms.Pairwise (· ≤ ·)) : ms = sortI ns :=
  List.Perm.eq_of_pairwise (fun a b _ _ h1 h2 => Int.le_antisymm h1 h2) g (sortI_sorted ns) (h.trans (sortI_perm ns).symm)
theorem vo_sortedI {ds : List D} {ns : List Int} (hn : intsOf ds = some ns) {F H : Hp} {va : V} {na : Nat} {Za : AS} (s : Same F H) (ra : RO K F H na (.lst ds) va Za) {Q : VK} (q : ∀ F' H' v Z, Ext F H F' H' → RO K F' H' 1 (.lst ((sortI ns).map .int)) v Z → (∀ a, Z a → H a = none ∧ ∃ o, H' a = some o) → Q v H') : rSortedI K [va] H Q := by
  obtain ⟨a, xs, rfl, ea, r⟩ := ra.rdL s
  have := intsOf_rp hn r
  subst this
  refine ⟨a, ns, rfl, .inl (.inl ea), fun ms p h1 h2 hp => ?_⟩
  rw [sortI_only h1 h2]
  exact q F _ _ (fun b => b = p) (Ext.new s hp) (RO.new upd_same (s.free hp) (ints_rp _)) fun a e => by cases e; exact ⟨hp, _, upd_same⟩
/-! ### rows of ints sorted -/
theorem leRow_iff : ∀ {x y : List Int}, leRow x y = true ↔ x ≤ y
  | [], y => by simp [leRow]
  | x :: xs, [] => by simp [leRow, List.le_iff_lt_or_eq]
  | x :: xs, y :: ys => by
    have ih := leRow_iff (x := xs) (y := ys)
    unfold leRow
    rw [List.cons_le_cons_iff]
    by_cases h : x < y
    · simp [h]
    · by_cases h2 : x = y
      · subst h2; simp [ih]
      · simp [h, h2]
theorem insR_perm (x : List Int) : ∀ l : List (List Int), (insR x l).Perm (x :: l)
  | [] => List.Perm.refl _
  | y :: ys => by
    unfold insR
    split
    · exact List.Perm.refl _
    · exact (List.Perm.cons y (insR_perm x ys)).trans (List.Perm.swap x y ys)
theorem sortR_perm : ∀ l : List (List Int), (sortR l).Perm l
  | [] => List.Perm.refl _
  | x :: xs => (insR_perm x _).trans (List.Perm.cons x (sortR_perm xs))
theorem row_total {x y : List Int} (h : ¬ x ≤ y) : y ≤ x := List.not_lt.mp fun q => h (List.not_lt.mp fun r => absurd (List.lt_trans q r) (List.lt_irrefl _))
theorem insR_sorted (x : List Int) : ∀ {l : List (List Int)}, l.Pairwise (· ≤ ·) → (insR x l).Pairwise (· ≤ ·)
  | [], _ => by simp [insR]
  | y :: ys, h => by
    unfold insR
    split
    · rename_i c
      rw [leRow_iff] at c
      refine List.pairwise_cons.mpr ⟨fun z hz => ?_, h⟩
      rcases List.mem_cons.mp hz with rfl | hz
      · exact c
      · exact List.le_trans c ((List.pairwise_cons.mp h).1 z hz)
    · rename_i c
      rw [leRow_iff] at c
      refine List.pairwise_cons.mpr ⟨fun z hz => ?_, insR_sorted x (List.pairwise_cons.mp h).2⟩
      rcases List.mem_cons.mp ((insR_perm x ys).mem_iff.mp hz) with rfl | hz
      · exact row_total c
      · exact (List.pairwise_cons.mp h).1 z hz
theorem sortR_sorted : ∀ l : List (List Int), (sortR l).Pairwise (· ≤ ·)
  | [] => List.Pairwise.nil
  | x :: xs => insR_sorted x (sortR_sorted xs)
theorem sortR_only {ns ms : List (List Int)} (h : ms.Perm ns) (g : ms.Pairwise (· ≤ ·)) : ms = sortR ns :=
  List.Perm.eq_of_pairwise (fun a b _ _ h1 h2 => List.le_antisymm h1 h2) g (sortR_sorted ns) (h.trans (sortR_perm ns).symm)
/-- sorted(xs), rows of ints -/
def rSortedR (K : PySem.W.Frag) : List V → Hp → VK → Prop := fun vs H Q => ∃ (a : Addr) (xs : List V) (L : List (List Int)), vs = [V.ref a] ∧ SqL K H a xs ∧ L.length = xs.length ∧ (∀ (i : Nat) (x : V) (ns : List Int), xs[i]? = some x → L[i]? = some ns → Dp K H x (.list (ns.map .int))) ∧
  ∀ (ps : List (List Int × V)) (p : Addr), ps.Perm (L.zip xs) → (ps.map (·.1)).Pairwise (· ≤ ·) → H p = none → Q (.ref p) (upd H p (.lst (ps.map (·.2))))
theorem each_zip {X : Cx} : ∀ {xs : List V} {its : List Value} {L : List (List Int)}, Vals xs its → L.length = xs.length → PySem.W.EachIs (fun u (b : List Int × V) => RelV b.2 u) its (L.zip xs)
  | _, _, [], .nil, _ => .nil
  | _, _, _ :: _, .cons r rs, h => .cons r (each_zip (X := X) rs (by simpa using h))
  | _, _, _ :: _, .nil, h => by simp at h
  | _, _, [], .cons _ _, h => by simp at h
theorem each_vals : ∀ {out : List Value} {ps : List (List Int × V)}, PySem.W.EachIs (fun u (b : List Int × V) => RelV b.2 u) out ps → Vals (ps.map (·.2)) out
  | _, _, .nil => .nil
  | _, _, .cons r rs => .cons r (each_vals rs)
theorem each_mem {α β : Type} {P Q : α → β → Prop} : ∀ {as : List α} {bs : List β}, PySem.W.EachIs P as bs → (∀ a b, b ∈ bs → P a b → Q a b) → PySem.W.EachIs Q as bs
  | _, _, .nil, _ => .nil
  | _, _, .cons r rs, h => .cons (h _ _ (by simp) r) (each_mem rs fun a b hb => h a b (by simp [hb]))
theorem cr_sortedR {X : Cx} (hu : X.A.units + 64 < cLine) : CallR X (.builtin "sorted") (rSortedR X.K) := by
  intro pins s σ H vs us Q I r h
  obtain ⟨a, xs, L, rfl, hs, hlen, hd, q⟩ := h
  obtain ⟨its, rv, hl, hz⟩ := I.list hs
  rw [Vals.ref1 r]
  have e := each_zip (X := X) (L := L) rv hlen
  have er : PySem.W.EachIs (fun v (b : List Int × V) => ∃ as, Reads s.heap v (PyData.list (b.1.map .int)) as) its (L.zip xs) := each_mem e fun u b hb ru => by
    obtain ⟨i, hi⟩ := List.getElem?_of_mem hb
    rw [List.getElem?_zip_eq_some] at hi
    exact Dp.reads I _ _ u (hd i b.2 b.1 hi.2 hi.1) ru
  have hlz : (L.zip xs).length = xs.length := by rw [List.length_zip, hlen, Nat.min_self]
  refine PySem.W.sorted_data (enc := fun b : List Int × V => PyData.list (b.1.map .int)) hl.isList e er (PySem.W.AllAlike.of fun b b' => by
      show PySem.W.alikeAll _ _ = true
      exact PySem.W.alike_ints _ _) (PySem.W.Sortable.others fun b => ⟨nofun, nofun⟩) (by rw [hlz]; exact hz) (fun b _ => by
      show _ + 2 + (PyData.depthAll (b.1.map .int) + 1) < cLine
      rw [PySem.W.depth_ints]; omega) fun out ho eo => ?_
  rw [PySem.W.dataLe_rows (β := List Int × V) (fun b => b.1)] at eo
  obtain ⟨ep, he'⟩ := PyProof.Rows.sortedAll_at s.heap its out.toArray
  generalize hps : (L.zip xs).mergeSort (fun p q => decide (p.1 ≤ q.1)) = ps at eo
  have hp : ps.Perm (L.zip xs) := by rw [← hps]; exact List.mergeSort_perm _ _
  have hw : (ps.map (·.1)).Pairwise (· ≤ ·) := by
    rw [List.pairwise_map, ← hps]
    have := List.pairwise_mergeSort (le := fun (p q : List Int × V) => decide (p.1 ≤ q.1)) (fun a b c h1 h2 => decide_eq_true (List.le_trans (of_decide_eq_true h1) (of_decide_eq_true h2))) (fun a b => by
      by_cases c : a.1 ≤ b.1
      · simp [c]
      · simp [row_total c]) (L.zip xs)
    exact this.imp fun h => of_decide_eq_true h
  have hsz : (ps.map (·.2)).length ≤ sizeLine := by rw [List.length_map, hp.length_eq, hlz]; exact hz
  exact ⟨.ref _, upd H (s.heap.objs.size + 1) (.lst (ps.map (·.2))), I.laid (t' := s.toks) (fun _ _ => PyProof.Rows.sortedAll_old) (Nat.le_succ _) ⟨hsz, out, ep, each_vals eo, he'⟩, rfl, q _ _ hp hw (I.hok.fresh (Nat.le_succ _))⟩
theorem lay_ints0 : ∀ r : List Int, PyData.canLayAll0 (r.map PyData.int) = true
  | [] => rfl
  | x :: r => by simp [PyData.canLayAll0, PyData.canLay0, lay_ints0 r]
theorem toPy_ints : ∀ r : List Int, toPyL (r.map D.int) = r.map PyData.int
  | [] => rfl
  | x :: r => by simp [toPyL, toPy, toPy_ints r]
theorem rows_rp {F : Hp} : ∀ {ds : List D} {L : List (List Int)} {xs : List V}, rowsOf ds = some L → RpL K F ds xs → L.length = xs.length ∧ ds = L.map (fun r => D.lst (r.map .int))
  | [], L, xs, h, r => by
    cases h
    cases (show xs = [] from r)
    exact ⟨rfl, rfl⟩
  | .lst ys :: ds, L, xs, h, r => by
    simp only [rowsOf, Option.bind_eq_some_iff, Option.map_eq_some_iff] at h
    obtain ⟨ns, h1, M, h2, rfl⟩ := h
    obtain ⟨v, vs, rfl, rv, r2⟩ := r
    obtain ⟨e1, e2⟩ := rows_rp h2 r2
    have : ys = ns.map D.int := by
      clear rv
      induction ys generalizing ns with
      | nil => cases h1; rfl
      | cons y ys ih =>
        cases y <;> first | (cases h1; done) | skip
        simp only [intsOf, Option.map_eq_some_iff] at h1
        obtain ⟨m, h1, rfl⟩ := h1
        rw [ih m h1]; rfl
    exact ⟨by simp [e1], by rw [e2, this]; rfl⟩
  | .non :: _, _, _, h, _ | .bl _ :: _, _, _, h, _ | .int _ :: _, _, _, h, _ | .str _ :: _, _, _, h, _ | .tup _ :: _, _, _, h, _ | .dic _ :: _, _, _, h, _ | .dit _ :: _, _, _, h, _ | .scr _ :: _, _, _, h, _ => by simp [rowsOf] at h
theorem RpL.pairs {F : Hp} : ∀ {L : List (List Int)} {xs : List V} {ps : List (List Int × V)}, RpL K F (L.map fun r => D.lst (r.map .int)) xs → (∀ p ∈ ps, p ∈ L.zip xs) → RpL K F ((ps.map (·.1)).map fun r => D.lst (r.map .int)) (ps.map (·.2)) := by
  intro L xs ps h hp
  refine RpL.of (by simp) fun i d v h1 h2 => ?_
  simp only [List.getElem?_map, Option.map_eq_some_iff] at h1 h2
  obtain ⟨r, ⟨p, hpi, rfl⟩, rfl⟩ := h1
  obtain ⟨p', hpi', rfl⟩ := h2
  rw [hpi] at hpi'; cases hpi'
  obtain ⟨j, hj⟩ := List.getElem?_of_mem (hp p (List.mem_of_getElem? hpi))
  rw [List.getElem?_zip_eq_some] at hj
  exact h.get (i := j) (by simp [hj.1]) hj.2
abbrev rSorted (K : PySem.W.Frag) : List V → Hp → VK → Prop := fun xs H Q => rSortedI K xs H Q ∨ rSortedR K xs H Q
theorem vo_sorted : VOp1 K true 1 (b1F .sorted) (one (rSorted K)) := by
  intro F H da d va na Za s ra al e Q q
  cases da <;> first | (cases e; done) | skip
  rename_i ds
  have e : sortD ds = some d := e
  unfold sortD at e
  cases hn : intsOf ds with
  | some ns =>
    rw [hn] at e; cases e
    exact .inl (vo_sortedI hn s ra q)
  | none =>
    rw [hn] at e
    simp only [Option.bind_eq_some_iff, Option.some.injEq] at e
    obtain ⟨L, hL, rfl⟩ := e
    obtain ⟨a, xs, rfl, ea, r⟩ := ra.items (al rfl) s
    obtain ⟨e1, e2⟩ := rows_rp hL r
    refine .inr ⟨a, xs, L, rfl, .inl (.inl ea), e1, fun i x ns hx hi => ?_, fun ps p hp hw hpn => ?_⟩
    · have rp := (r.mono s).get (i := i) (d := .lst (ns.map .int)) (v := x) (by rw [e2]; simp [hi]) hx
      have := rp.dp (by show PyData.canLayAll0 (toPyL (ns.map D.int)) = true; rw [toPy_ints]; exact lay_ints0 _)
      rw [show toPy (.lst (ns.map D.int)) = .list (ns.map .int) by show PyData.list (toPyL _) = _; rw [toPy_ints]] at this
      exact this
    · have hs : ps.map (·.1) = sortR L := sortR_only (by
        have := hp.map (·.1)
        rwa [List.map_fst_zip (by omega)] at this) hw
      rw [e2] at r
      have rr := RpL.pairs r fun x hx => hp.mem_iff.mp hx
      rw [hs] at rr
      exact q F _ _ (fun b => b = p) (Ext.new s hpn) (RO.new upd_same (s.free hpn) rr) fun a e => by cases e; exact ⟨hpn, _, upd_same⟩
/-- sorted(xs, reverse=True), ints -/
theorem vo_srev : VOp1 K true 1 (b1F .srev) (one fun vs H Q => rSortedKw K true [.bl true] vs [.bl true] H Q) := by
  intro F H da d va na Za s ra al e Q q
  cases da <;> simp [b1F, Option.bind_eq_some_iff] at e
  obtain ⟨ns, hn, rfl⟩ := e
  obtain ⟨a, xs, rfl, ea, r⟩ := ra.rdL s
  have := intsOf_rp hn r
  subst this
  refine ⟨a, ns, rfl, rfl, .inl (.inl ea), fun ms p h1 h2 hp => ?_⟩
  have hm : ms = (sortI ns).reverse := by
    have h2 : ms.Pairwise (· ≥ ·) := h2
    have := sortI_only (ns := ns) (ms := ms.reverse) ((List.reverse_perm ms).trans h1) (List.pairwise_reverse.mpr h2)
    rw [← this, List.reverse_reverse]
  rw [hm, List.map_reverse]
  have := q F (upd H p (.lst ((sortI ns).map V.int).reverse)) (.ref p) (fun b => b = p) (Ext.new s hp) (RO.new upd_same (s.free hp) ((ints_rp _).reverse)) fun a e => by cases e; exact ⟨hp, _, upd_same⟩
  exact this
theorem facN_eq : ∀ n : Nat, Builtin.Math.factorialNat n = facN n
  | 0 => rfl
  | n + 1 => by
    have := facN_eq n
    unfold Builtin.Math.factorialNat at this ⊢
    rw [List.range_succ, List.foldl_append, this]
    simp [facN, Nat.mul_comm]
abbrev rFact : List V → Hp → VK → Prop := fun vs H Q => ∃ n : Int, vs = [.int n] ∧ 0 ≤ n ∧ n ≤ 20000 ∧ Q (.int (facN n.toNat : Nat)) H
theorem cr_fact {X : Cx} : CallR X (.builtin "math.factorial") rFact := by
  intro pins s σ H vs us Q I r h
  obtain ⟨n, rfl, h0, h1, q⟩ := h
  cases r with | cons r1 r2 => ?_
  cases r2
  obtain ⟨t, rfl⟩ := r1
  refine PySem.W.mc_factorial h0 h1 fun _ => ⟨.int _, H, I.tok _, ⟨_, rfl⟩, ?_⟩
  rw [facN_eq]; exact q
theorem vo_fact {n : Nat} {al : Bool} : VOp1 K al n (b1F .fact) (one rFact) := by
  intro F H da d va na Za s ra _ e Q q
  cases da <;> simp [b1F] at e
  obtain ⟨⟨h0, h1⟩, rfl⟩ := e
  exact ⟨_, by rw [ra.int_v], h0, by omega, q F H _ noA (Ext.refl s) RO.int fun _ z => z.elim⟩
/-- len(sorted(set(xs))), xs a list of tuples of ints -/
def rLss (K : PySem.W.Frag) (P : Program) (w : World) : List V → Hp → VK → Prop := fun vs H Q => rSetOfT K P w vs H fun s H1 => rSortedT K P w [s] H1 fun l H2 => rLen K [l] H2 Q
theorem nd_len : ∀ (l D : List (List Int)), l.Nodup → (∀ x ∈ l, x ∈ D) → l.length ≤ D.length
  | [], _, _, _ => Nat.zero_le _
  | x :: l, D, h, g => by
    rw [List.nodup_cons] at h
    have hx : x ∈ D := g x (by simp)
    have := nd_len l (D.erase x) h.2 fun y hy => (List.mem_erase_of_ne (fun e => h.1 (by rw [← e]; exact hy))).mpr (g y (by simp [hy]))
    rw [List.length_erase_of_mem hx] at this
    have : 0 < D.length := List.length_pos_of_mem hx
    simp only [List.length_cons]; omega
theorem mem_dist : ∀ {L : List (List Int)} {x : List Int}, x ∈ dist L ↔ x ∈ L
  | [], _ => Iff.rfl
  | y :: L, x => by
    unfold dist
    split
    · rename_i h
      rw [mem_dist, List.mem_cons]
      exact ⟨.inr, fun q => q.elim (fun e => by rw [e]; exact h) id⟩
    · rw [List.mem_cons, List.mem_cons, mem_dist]
theorem nd_dist : ∀ L : List (List Int), (dist L).Nodup
  | [] => List.nodup_nil
  | y :: L => by
    unfold dist
    split
    · exact nd_dist L
    · rename_i h
      exact List.nodup_cons.mpr ⟨fun q => h (mem_dist.mp q), nd_dist L⟩
theorem tups_rp {K : PySem.W.Frag} {H : Hp} : ∀ {ds : List D} {xs : List V} {L : List (List Int)}, tupsOf ds = some L → RpL K H ds xs → ∃ ks : List (Addr × List Int), xs = ks.map (fun p => V.ref p.1) ∧ L = ks.map (·.2) ∧ ∀ p ∈ ks, SqT K H p.1 (p.2.map V.int)
  | [], xs, L, h, r => by
    cases h
    exact ⟨[], r, rfl, fun _ q => nomatch q⟩
  | .tup ys :: ds, xs, L, h, r => by
    simp only [tupsOf, Option.bind_eq_some_iff, Option.map_eq_some_iff] at h
    obtain ⟨ns, h1, M, h2, rfl⟩ := h
    obtain ⟨v, vs, rfl, ⟨a, zs, rfl, q, rr⟩, r2⟩ := r
    obtain ⟨ks, rfl, rfl, hk⟩ := tups_rp h2 r2
    have := intsOf_rp h1 rr
    subst this
    refine ⟨(a, ns) :: ks, rfl, rfl, fun p hp => ?_⟩
    rcases List.mem_cons.mp hp with rfl | hp
    · exact q
    · exact hk p hp
  | .non :: _, _, _, h, _ | .bl _ :: _, _, _, h, _ | .int _ :: _, _, _, h, _ | .str _ :: _, _, _, h, _ | .lst _ :: _, _, _, h, _ | .dic _ :: _, _, _, h, _ | .dit _ :: _, _, _, h, _ | .scr _ :: _, _, _, h, _ => by simp [tupsOf] at h
theorem vo_lss {P : Program} {w : World} {n : Nat} : VOp1 K true n (b1F .lss) (one (rLss K P w)) := by
  intro F H da d va na Za s ra al e Q q
  cases da <;> simp [b1F, Option.bind_eq_some_iff] at e
  obtain ⟨L, hL, hok, rfl⟩ := e
  obtain ⟨a, xs, rfl, ea, r⟩ := ra.rdL s
  obtain ⟨ks, rfl, rfl, hk⟩ := tups_rp hL r
  unfold tupsOk at hok
  rw [Bool.and_eq_true, decide_eq_true_eq, List.length_map] at hok
  obtain ⟨h64, hok⟩ := hok
  have hd : ∃ d, 1 ≤ d ∧ ∀ p ∈ ks, p.2.length = d ∧ TS.Bd 1000 p.2 := by
    cases ks with
    | nil => exact ⟨1, Nat.le_refl _, fun _ z => nomatch z⟩
    | cons k ks =>
      simp only [List.map_cons, Bool.and_eq_true, decide_eq_true_eq] at hok
      refine ⟨k.2.length, hok.1, fun p hp => ?_⟩
      have h1 := List.all_eq_true.mp hok.2 p.2 (by
        rw [← List.map_cons (f := fun p : Addr × List Int => p.2)]
        exact List.mem_map_of_mem hp)
      rw [Bool.and_eq_true, decide_eq_true_eq] at h1
      refine ⟨h1.1, fun m hm => ?_⟩
      have h2 := List.all_eq_true.mp h1.2 m hm
      rw [Bool.and_eq_true, decide_eq_true_eq, decide_eq_true_eq] at h2
      exact h2
  obtain ⟨d, d1, d2⟩ := hd
  refine ⟨a, ks, rfl, .inl (.inl ea), hk, h64, fun t S ht hS hA => ?_⟩
  have e1 := Ext.new (o := SetTO P w t S) s ht
  have sm : Same H (upd H t (SetTO P w t S)) := fun b o e => by
    have : b ≠ t := fun q => by subst q; rw [ht] at e; cases e
    rw [upd_ne this]; exact e
  refine ⟨t, S, d, 1000, rfl, upd_same, fun p hp => same_seqT sm (hk p (hS p hp)), d1, fun p hp => d2 p (hS p hp), fun S' l hp hn _ _ hl => ?_⟩
  have hlen : S'.length = (dist (ks.map (·.2))).length := by
    have m1 : ∀ x ∈ S'.map (·.2), x ∈ dist (ks.map (·.2)) := fun x hx => by
      obtain ⟨p, hp', rfl⟩ := List.mem_map.mp hx
      exact mem_dist.mpr (List.mem_map_of_mem (hS p (hp.mem_iff.mp hp')))
    have m2 : ∀ x ∈ dist (ks.map (·.2)), x ∈ S'.map (·.2) := fun x hx => by
      obtain ⟨p, hp', rfl⟩ := List.mem_map.mp (mem_dist.mp hx)
      obtain ⟨p', hp2, e⟩ := List.mem_map.mp (hA p hp')
      rw [← e]
      exact List.mem_map_of_mem (hp.mem_iff.mpr hp2)
    have l1 := nd_len _ _ hn m1
    have l2 := nd_len _ _ (nd_dist _) m2
    rw [List.length_map] at l1 l2
    omega
  have e2 := Ext.new (o := .lst (S'.map fun q => V.ref q.1)) e1.sub hl
  refine .inl ⟨l, _, rfl, .inl (.inl (.inl upd_same)), ?_⟩
  rw [List.length_map, hlen]
  exact q F _ _ noA ⟨Same.refl _, e1.h.trans e2.h, e2.sub, fun _ _ _ e => e⟩ RO.int fun _ z => z.elim
abbrev rInt1 : List V → Hp → VK → Prop := fun xs H Q => (∃ i, xs = [.int i] ∧ Q (.int i) H) ∨ ∃ k, xs = [.bl k] ∧ Q (.int (if k then 1 else 0)) H
theorem vo_int1 {n : Nat} {al : Bool} : VOp1 K al n (b1F .int) (one rInt1) := by
  intro F H da d va na Za s ra _ e Q q
  cases da <;> simp [b1F, Option.bind_eq_some_iff] at e <;> subst e
  · exact .inr ⟨_, by rw [ra.bl_v], q F H _ noA (Ext.refl s) RO.int fun _ z => z.elim⟩
  · exact .inl ⟨_, by rw [ra.int_v], q F H _ noA (Ext.refl s) RO.int fun _ z => z.elim⟩
abbrev rAbs1 : List V → Hp → VK → Prop := fun xs H Q => ∃ i, xs = [.int i] ∧ Q (.int (if i < 0 then -i else i)) H
theorem vo_abs {n : Nat} {al : Bool} : VOp1 K al n (b1F .abs) (one rAbs1) := by
  intro F H da d va na Za s ra _ e Q q
  cases da <;> simp [b1F, Option.bind_eq_some_iff] at e
  subst e
  exact ⟨_, by rw [ra.int_v], q F H _ noA (Ext.refl s) RO.int fun _ z => z.elim⟩
abbrev rMin2 : List V → Hp → VK → Prop := fun xs H Q => ∃ i j, xs = [.int i, .int j] ∧ Q (.int (if j < i then j else i)) H
abbrev rMax2 : List V → Hp → VK → Prop := fun xs H Q => ∃ i j, xs = [.int i, .int j] ∧ Q (.int (if j > i then j else i)) H
theorem vo_min2 {n : Nat} {al : Bool} : VOp2 K al n (b2F .min) (two rMin2) := by
  intro F H da db d va vb na nb Za Zb s ra rb _ e Q q
  cases da <;> cases db <;> simp only [b2F, reduceCtorEq, Option.some.injEq] at e
  subst e
  exact ⟨_, _, by rw [ra.int_v, rb.int_v], q F H _ noA (Ext.refl s) RO.int fun _ z => z.elim⟩
theorem vo_max2 {n : Nat} {al : Bool} : VOp2 K al n (b2F .max) (two rMax2) := by
  intro F H da db d va vb na nb Za Zb s ra rb _ e Q q
  cases da <;> cases db <;> simp only [b2F, reduceCtorEq, Option.some.injEq] at e
  subst e
  exact ⟨_, _, by rw [ra.int_v, rb.int_v], q F H _ noA (Ext.refl s) RO.int fun _ z => z.elim⟩
/-! list(range(..)) -/
theorem rngOk_of {a b : Int} (h : rngOk a b = true) : -(2 ^ 62) ≤ a ∧ a < 2 ^ 62 ∧ -(2 ^ 62) ≤ b ∧ b < 2 ^ 62 := by
  unfold rngOk at h
  simp only [Bool.and_eq_true, decide_eq_true_eq] at h
  omega
theorem rng_rp {F : Hp} (a b : Int) : RpL K F (rngL a b) (rgV a b) := by
  unfold rngL rgV
  generalize List.range (b - a).toNat = l
  induction l with
  | nil => exact rfl
  | cons x l ih => exact ⟨_, _, rfl, rfl, ih⟩
def rRng1 : V → Hp → VK → Prop := fun x H Q => ∃ n, x = .int n ∧ RgOk 0 n ∧ ∀ q, H q = none → Q (.ref q) (upd H q (.lst (rgV 0 n)))
def rRng2 : R2 := fun x y H Q => ∃ i j, x = .int i ∧ y = .int j ∧ RgOk i j ∧ ∀ q, H q = none → Q (.ref q) (upd H q (.lst (rgV i j)))
theorem vo_rng1 {al : Bool} : VOp1 K al 1 (b1F .rng) rRng1 := by
  intro F H da d va na Za s ra _ e Q q
  cases da <;> simp [b1F, Option.bind_eq_some_iff] at e
  obtain ⟨⟨c1, c2⟩, rfl⟩ := e
  obtain ⟨h1, h2, h3, h4⟩ := rngOk_of c1
  exact ⟨_, ra.int_v, ⟨h1, h2, h3, h4, by omega⟩, fun p hp => q F _ _ (fun b => b = p) (Ext.new s hp) (RO.new upd_same (s.free hp) (rng_rp _ _)) fun a e => by cases e; exact ⟨hp, _, upd_same⟩⟩
theorem vo_rng2 {al : Bool} : VOp2 K al 1 (b2F .rng) rRng2 := by
  intro F H da db d va vb na nb Za Zb s ra rb _ e Q q
  cases da <;> cases db <;> simp [b2F] at e
  obtain ⟨⟨c1, c2⟩, rfl⟩ := e
  obtain ⟨h1, h2, h3, h4⟩ := rngOk_of c1
  exact ⟨_, _, ra.int_v, rb.int_v, ⟨h1, h2, h3, h4, by omega⟩, fun p hp => q F _ _ (fun b => b = p) (Ext.new s hp) (RO.new upd_same (s.free hp) (rng_rp _ _)) fun a e => by cases e; exact ⟨hp, _, upd_same⟩⟩
/-! dict(pairs) -/
theorem putD_rp {F : Hp} {k : Key} {d : D} {v : V} (hv : Rp K F d v) {ds : List (Key × D)} {xs : List (Key × V)} (h : RpK K F ds xs) : RpK K F (putD ds k d) (putK xs k v) := by
  have any : ∀ {ds : List (Key × D)} {xs : List (Key × V)}, RpK K F ds xs → (ds.any fun kv => decide (kv.1 = k)) = xs.any fun kv => decide (kv.1 = k) := by
    intro ds
    induction ds with
    | nil => intro xs h; cases (show xs = [] from h); rfl
    | cons p ds ih =>
      intro xs h
      obtain ⟨a, b⟩ := p
      obtain ⟨w, vs, e, r, q⟩ := h
      subst e
      simp only [List.any_cons, ih q]
  have mp : ∀ {ds : List (Key × D)} {xs : List (Key × V)}, RpK K F ds xs → RpK K F (ds.map fun kv => if kv.1 = k then (kv.1, d) else kv) (xs.map fun kv => if kv.1 = k then (kv.1, v) else kv) := by
    intro ds
    induction ds with
    | nil => intro xs h; cases (show xs = [] from h); exact rfl
    | cons p ds ih =>
      intro xs h
      obtain ⟨a, b⟩ := p
      obtain ⟨w, vs, e, r, q⟩ := h
      subst e
      simp only [List.map_cons]
      by_cases c : a = k
      · simp only [if_pos c]; exact ⟨v, _, rfl, hv, ih q⟩
      · simp only [if_neg c]; exact ⟨w, _, rfl, r, ih q⟩
  have ap : ∀ {ds : List (Key × D)} {xs : List (Key × V)}, RpK K F ds xs → RpK K F (ds ++ [(k, d)]) (xs ++ [(k, v)]) := by
    intro ds
    induction ds with
    | nil => intro xs h; cases (show xs = [] from h); exact ⟨v, [], rfl, hv, rfl⟩
    | cons p ds ih =>
      intro xs h
      obtain ⟨a, b⟩ := p
      obtain ⟨w, vs, e, r, q⟩ := h
      subst e
      exact ⟨w, _, rfl, r, ih q⟩
  unfold putD putK
  rw [any h]
  split
  · exact mp h
  · exact ap h
theorem pairs_rp {F : Hp} : ∀ {ds : List D} {kvs : List (Key × D)} {xs : List V}, pairsOf ds = some kvs → RpL K F ds xs → ∃ (ps : List Addr) (vs : List (Key × V)), xs = ps.map V.ref ∧ Paired (fun p (kv : Key × V) => SqT K F p [kV kv.1, kv.2]) ps vs ∧ RpK K F kvs vs
  | [], kvs, xs, h, r => by cases h; cases (show xs = [] from r); exact ⟨[], [], rfl, .nil, rfl⟩
  | d :: ds, kvs, xs, h, ⟨v, vs, e, rv, r⟩ => by
    unfold pairsOf at h
    split at h
    · rename_i he; cases he
    · rename_i k w ds' he
      cases he
      split at h
      · rename_i k' r' h1 h2
        cases h
        obtain ⟨ps, ws, e1, e2, e3⟩ := pairs_rp h2 r
        obtain ⟨a, ys, rfl, ea, ry⟩ := rv
        obtain ⟨v1, t1, rfl, r1, v2, t2, rfl, r2, e4⟩ := ry
        cases (show t2 = [] from e4)
        subst e e1
        have hk : v1 = kV k' := key_v (n := 0) (H := F) (Z := noA) h1 r1
        subst hk
        exact ⟨a :: ps, (k', v2) :: ws, rfl, .cons ea e2, v2, ws, rfl, r2, e3⟩
      · cases h
    · cases h
abbrev rDictP (K : PySem.W.Frag) : List V → Hp → VK → Prop := fun xs H Q => ∃ (a : Addr) (ps : List Addr) (kvs : List (Key × V)), xs = [.ref a] ∧ SqL K H a (ps.map V.ref) ∧ Paired (fun p kv => SqT K H p [kV kv.1, kv.2]) ps kvs ∧ ∀ p, H p = none → Q (.ref p) (upd H p (.dK (mergeK [] kvs)))
theorem paired_mono {α β : Type} {P Q : α → β → Prop} (h : ∀ a b, P a b → Q a b) : ∀ {l : List α} {m : List β}, Paired P l m → Paired Q l m
  | _, _, .nil => .nil
  | _, _, .cons a r => .cons (h _ _ a) (paired_mono h r)
theorem merge_rp {F : Hp} : ∀ {kvs acc : List (Key × D)} {vs accv : List (Key × V)}, RpK K F kvs vs → RpK K F acc accv → RpK K F (kvs.foldl (fun acc kv => putD acc kv.1 kv.2) acc) (vs.foldl (fun acc kv => putK acc kv.1 kv.2) accv)
  | [], _, vs, _, h, g => by cases (show vs = [] from h); exact g
  | (k, d) :: kvs, acc, _, accv, ⟨v, vs, e, r, q⟩, g => by
    subst e
    exact merge_rp (kvs := kvs) (vs := vs) q (putD_rp r g)
theorem RO.newK {F H : Hp} {a : Addr} {xs : List (Key × V)} {ds : List (Key × D)} (h : H a = some (.dK xs)) (f : F a = none) (r : RpK K F ds xs) : RO K F H 1 (.dic ds) (.ref a) fun b => b = a :=
  ⟨a, xs, fun _ => noA, rfl, h, f, rfl, r.length, fun _ _ q => q.elim, fun _ _ _ q => q.elim, fun _ _ _ h1 h2 => r.get h1 h2⟩
theorem vo_dict : VOp1 K true 1 (b1F .dict) (one (rDictP K)) := by
  intro F H da d va na Za s ra al e Q q
  cases da <;> simp [b1F, Option.bind_eq_some_iff] at e
  obtain ⟨kvs, hn, rfl⟩ := e
  obtain ⟨a, xs, rfl, ea, r⟩ := ra.items (al rfl) s
  obtain ⟨ps, vs, rfl, e2, e3⟩ := pairs_rp hn r
  refine ⟨a, ps, vs, rfl, .inl (.inl ea), paired_mono (fun a b h => same_seqT s h) e2, fun p hp => ?_⟩
  exact q F _ _ (fun b => b = p) (Ext.new s hp) (RO.newK upd_same (s.free hp) (merge_rp e3 (show RpK K F [] [] from rfl))) fun a e => by cases e; exact ⟨hp, _, upd_same⟩
/-! index, count -/
theorem toPyL_get {ds : List D} : ∀ (i : Nat), (toPyL ds)[i]? = ds[i]?.map toPy := by
  induction ds with
  | nil => intro i; rfl
  | cons d ds ih => intro i; cases i with
    | zero => rfl
    | succ i => exact ih i
theorem firstAt_some {α : Type} {p : α → Bool} : ∀ {l : List α} {j : Nat}, firstAt p l = some j → (∃ z, l[j]? = some z ∧ p z = true) ∧ ∀ (m : Nat) (z : α), m < j → l[m]? = some z → p z = false
  | [], j, h => by cases h
  | x :: xs, j, h => by
    unfold firstAt at h
    by_cases c : p x = true
    · rw [if_pos c] at h
      cases h
      exact ⟨⟨x, rfl, c⟩, fun m z hm => absurd hm (Nat.not_lt_zero _)⟩
    · rw [if_neg c] at h
      obtain ⟨i, hi, rfl⟩ := Option.map_eq_some_iff.mp h
      obtain ⟨⟨z, h1, h2⟩, h3⟩ := firstAt_some hi
      refine ⟨⟨z, by simpa using h1, h2⟩, fun m z hm hz => ?_⟩
      cases m with
      | zero => simp at hz; subst hz; simpa using c
      | succ m => exact h3 m z (by omega) (by simpa using hz)
abbrev mtw (r : V → List V → Hp → VK → Prop) : R2 := fun x y H Q => r x [y] H Q
theorem vo_index {n : Nat} {al : Bool} : VOp2 K al n (m1F .index) (mtw (rIndexD K)) := by
  intro F H da db d va vb na nb Za Zb s ra rb _ e Q q
  cases da <;> simp only [m1F] at e <;> try (cases e)
  rename_i ds
  by_cases c : (shp db && shp (.lst ds)) = true
  · rw [if_pos c] at e
    obtain ⟨j, hj, e⟩ := Option.bind_eq_some_iff.mp e
    cases e
    obtain ⟨c1, c2⟩ := Bool.and_eq_true_iff.mp c
    obtain ⟨⟨z, h1, h2⟩, h3⟩ := firstAt_some hj
    have rd := ra.rd s
    obtain ⟨a, xs, ev, ea, r⟩ := id rd
    subst ev
    refine ⟨a, vb, toPy db, toPyL ds, j, toPy z, rfl, rfl, rd.dp (lay_of c2), (rb.rd s).dp (lay_of c1), c2, c1, by rw [toPyL_get, h1]; rfl, h2, fun m z' hm hz => ?_, q F H _ noA (Ext.refl s) RO.int fun _ z => z.elim⟩
    rw [toPyL_get] at hz
    obtain ⟨w, hw, rfl⟩ := Option.map_eq_some_iff.mp hz
    exact h3 m w hm hw
  · rw [if_neg c] at e; cases e
theorem vo_count {n : Nat} {al : Bool} : VOp2 K al n (m1F .count) (mtw (rCntI K)) := by
  intro F H da db d va vb na nb Za Zb s ra rb _ e Q q
  cases da <;> simp only [m1F] at e <;> try (cases e)
  rename_i ds
  cases db <;> simp only [m1F] at e <;> try (cases e)
  rename_i k
  obtain ⟨ns, hn, e⟩ := Option.bind_eq_some_iff.mp e
  cases e
  obtain ⟨a, xs, ev, ea, r⟩ := ra.rd s
  subst ev
  rw [intsOf_rp hn r] at ea
  exact ⟨a, ns, k, rfl, by rw [rb.int_v], .inl (.inl ea), q F H _ noA (Ext.refl s) RO.int fun _ z => z.elim⟩
end
end DL
/-! DL6: what a reading must do to be an evaluator's answer; expressions. -/
namespace DL
open PySem PySem.Spec PyProof.Rows L2

/-- where one stands: the program, the function at hand (its names, depths, changed parameters), the table, what calls do -/
structure CC where
  P : Program
  w : World
  K : PySem.W.Frag
  mg : Str → Option Value
  base : Heap
  N : List Str
  G : List Nat
  io : List Nat
  tbl : List Fd
  adr : Nat → Addr
  fda : Nat → FuncData
  bl : List Str
  gl : List Nat
  cal : Cal
  fuel : Nat
  k : Nat
  exc : Nat → Addr
def CC.g (C : CC) (i : Nat) : Nat := C.G.getD i 0

section
variable (C : CC) (E : XK)
/-- what an own exception asks -/
def PX (T : List Nat) (F H : Hp) (S : Nat → AS) (c : Nat) (d : D) : Prop :=
  ∀ F' H' S' dx v, Stp T F H S F' H' S' → Same F' H' → H' dx = some (.xd [("at", v)]) → Rp C.K F' d v → E (.ref (C.exc c)) (some dx) H'
def Post {α : Type} (T : List Nat) (F H : Hp) (S : Nat → AS) (r : R α) (k : α → Prop) : Prop :=
  match r with
  | .ok a => k a
  | .exc c d => PX C E T F H S c d
  | .bad => False
/-- a reading that gives what ev gives, owned to the depth n, changing the slots of T -/
def SemE (t : TE) (ev : Env → R (D × Env)) (n : Nat) (T : List Nat) : Prop :=
  ∀ F H σ env S, RI C.K C.g F H σ env S → ∀ Q : VK,
    Post C E T F H S (ev env) (fun p => ∀ F' H' S' v Z, Stp T F H S F' H' S' → RI C.K C.g F' H' σ p.2 S' → RO C.K F' H' n p.1 v Z → Frs T H S H' S' Z → Q v H') → t σ H Q
/-- the same, the value maybe still a part of what slot b owns -/
def SemP (t : TE) (ev : Env → R (D × Env)) (n : Nat) (T : List Nat) (b : Option Nat) : Prop :=
  ∀ F H σ env S, RI C.K C.g F H σ env S → ∀ Q : VK,
    Post C E T F H S (ev env) (fun p => ∀ F' H' S' v Z, Stp T F H S F' H' S' → RI C.K C.g F' H' σ p.2 S' → RO C.K F' H' n p.1 v Z → (∀ a, Z a → (∃ o, H' a = some o) ∧ ∀ i, S' i a → b = some i) → Q v H') → t σ H Q
def SemT (t : TT) (ev : Env → R (Bool × Env)) (T : List Nat) : Prop :=
  ∀ F H σ env S, RI C.K C.g F H σ env S → ∀ Q : Bool → Hp → Prop,
    Post C E T F H S (ev env) (fun p => ∀ F' H' S', Stp T F H S F' H' S' → RI C.K C.g F' H' σ p.2 S' → Q p.1 H') → t σ H Q
/-- a list of values, each owned to the depth n, apart -/
def SemL (t : TA) (ev : Env → R (List D × Env)) (n : Nat) (T : List Nat) : Prop :=
  ∀ F H σ env S, RI C.K C.g F H σ env S → ∀ Q : List V → Hp → Prop,
    Post C E T F H S (ev env) (fun p => ∀ F' H' S' vs (Z : Nat → AS), Stp T F H S F' H' S' → RI C.K C.g F' H' σ p.2 S' → p.1.length = vs.length → (∀ i d v, p.1[i]? = some d → vs[i]? = some v → RO C.K F' H' n d v (Z i)) →
      (∀ i, Frs T H S H' S' (Z i)) → (∀ i j a, Z i a → Z j a → i = j) → Q vs H') → t σ H Q
end

section
variable {C : CC} {E : XK} {T T1 T2 : List Nat} {F H F1 H1 F2 H2 : Hp} {S S1 S2 : Nat → AS}
theorem Post.bind {α β : Type} {x : R α} {f : α → R β} {k : β → Prop} (h : Post C E T F H S (x.bind f) k) : Post C E T F H S x fun a => Post C E T F H S (f a) k := by
  cases x <;> exact h
theorem Post.to {α : Type} {x : R α} {k k' : α → Prop} (h : Post C E T F H S x k) (hT : ∀ i ∈ T1, i ∈ T) (hk : ∀ a, x = .ok a → k a → k' a) : Post C E T1 F H S x k' := by
  cases x with
  | ok a => exact hk a rfl h
  | exc c d => exact fun F' H' S' dx v st => h F' H' S' dx v (st.weak hT)
  | bad => exact h
/-- from further on -/
theorem Post.step {α : Type} {x : R α} {k k' : α → Prop} (h : Post C E T F H S x k) (st : Stp T1 F H S F1 H1 S1) (hT : ∀ i ∈ T1, i ∈ T) (hT2 : ∀ i ∈ T2, i ∈ T) (hk : ∀ a, x = .ok a → k a → k' a) : Post C E T2 F1 H1 S1 x k' := by
  cases x with
  | ok a => exact hk a rfl h
  | exc c d => exact fun F' H' S' dx v st' => h F' H' S' dx v ((st.trans st').weak fun i hi => (List.mem_append.mp hi).elim (hT i) (hT2 i))
  | bad => exact h
theorem Post.opt {α β : Type} {x : Option α} {f : α → R β} {k : β → Prop} (h : Post C E T F H S ((ofOpt x).bind f) k) : ∃ a, x = some a ∧ Post C E T F H S (f a) k := by
  cases x with
  | none => exact h.elim
  | some a => exact ⟨a, rfl, h⟩

/-! ### growing heaps -/
theorem Ext.stp (x : Ext F H F1 H1) : Stp T F H S F1 H1 S :=
  ⟨x.f, fun a o e => ⟨o, x.h a o e⟩, fun a o e _ => x.h a o e, fun a o e f _ => x.n a o e f, fun _ _ q => .inl q, fun _ _ => rfl⟩
theorem RI.ext {K : PySem.W.Frag} {G : Nat → Nat} {σ : L2.St} {env : Env} (r : RI K G F H σ env S) (x : Ext F H F1 H1) : RI K G F1 H1 σ env S :=
  ⟨x.sub, fun i d g => let ⟨v, e, q⟩ := r.cell i d g; ⟨v, e, q.frame x.f fun a o _ e f => ⟨x.n a o e f, x.h a o e⟩⟩, r.dj, fun i a q => let ⟨o, e⟩ := r.lv i a q; ⟨o, x.h a o e⟩, r.len⟩
theorem RI.new {K : PySem.W.Frag} {G : Nat → Nat} {σ : L2.St} {env : Env} {i : Nat} {a : Addr} (r : RI K G F H σ env S) (h : H a = none) : ¬ S i a := fun q => by
  obtain ⟨o, e⟩ := r.lv i a q
  rw [h] at e; cases e
/-- what is new behind a step is new -/
theorem Stp.frs (st : Stp T F H S F1 H1 S1) {K : PySem.W.Frag} {G : Nat → Nat} {σ : L2.St} {env : Env} (r : RI K G F1 H1 σ env S1) {Z : AS} (hz : ∀ a, Z a → H1 a = none ∧ ∃ o, H2 a = some o) : Frs T H S H2 S1 Z :=
  fun a z => ⟨(hz a z).2, .inl (none_of st.there (hz a z).1), fun i => r.new (hz a z).1⟩

theorem SemE.lw {t : TE} {ev : Env → R (D × Env)} {n m : Nat} (h : SemE C E t ev n T) (hm : m ≤ n) : SemE C E t ev m T := fun F H σ env S ri Q post =>
  h F H σ env S ri Q (post.to (fun _ h => h) fun p _ hp F' H' S' v Z st ri' r f => by
    obtain ⟨F2, Z', st2, ri2, r2, f2, _, _, _⟩ := low st ri' r f hm
    exact hp F2 H' S' v Z' st2 ri2 r2 f2)
theorem SemE.p {t : TE} {ev : Env → R (D × Env)} {n : Nat} (h : SemE C E t ev n T) : SemP C E t ev (min n 1) T none := fun F H σ env S ri Q post =>
  (h.lw (Nat.min_le_left n 1)) F H σ env S ri Q (post.to (fun _ h => h) fun p _ hp F' H' S' v Z st ri' r f => hp F' H' S' v Z st ri' r fun a z => ⟨(f a z).1, fun i w => ((f a z).2.2 i w).elim⟩)

/-! ### names, constants -/
theorem gt_some {env : Env} {i : Nat} {d : D} : gt env i = some d → getv i env = .ok d := fun h => by unfold getv; rw [h]; rfl
theorem getv_ok {env : Env} {i : Nat} {α : Type} {f : D → R α} {k : α → Prop} (h : Post C E T F H S ((getv i env).bind f) k) : ∃ d, gt env i = some d ∧ Post C E T F H S (f d) k := Post.opt h
theorem sem_var {i : Nat} (hi : C.g i = 0) : SemE C E (tVar i) (evE C.cal (.var i)) 0 T := fun F H σ env S ri Q post => by
  obtain ⟨d, hd, post⟩ := getv_ok (show Post C E T F H S ((getv i env).bind fun d => .ok (d, env)) _ from post)
  obtain ⟨v, e, r⟩ := ri.cell i d hd
  rw [hi] at r
  exact ⟨v, e, post F H S v noA Stp.refl ri r Frs.none⟩
theorem sem_varP {i : Nat} : SemP C E (tVar i) (evE C.cal (.var i)) (C.g i) T (some i) := fun F H σ env S ri Q post => by
  obtain ⟨d, hd, post⟩ := getv_ok (show Post C E T F H S ((getv i env).bind fun d => .ok (d, env)) _ from post)
  obtain ⟨v, e, r⟩ := ri.cell i d hd
  exact ⟨v, e, post F H S v (S i) Stp.refl ri r fun a z => ⟨ri.lv i a z, fun j w => by rw [ri.dj i j a z w]⟩⟩
theorem gt_set {env : Env} {i j : Nat} {x : Option D} : gt (env.set i x) j = if i = j then (if i < env.length then x else none) else gt env j := by
  unfold gt
  rw [List.getElem?_set]
  by_cases h : i = j
  · rw [if_pos h, if_pos h]
    split <;> rfl
  · rw [if_neg h, if_neg h]
theorem gt_set_ne {env : Env} {i j : Nat} {x : Option D} (h : i ≠ j) : gt (env.set i x) j = gt env j := by rw [gt_set, if_neg h]
theorem gt_set_self {env : Env} {i : Nat} {x : Option D} {d : D} (h : gt (env.set i x) i = some d) : x = some d := by
  rw [gt_set, if_pos rfl] at h
  split at h
  · exact h
  · cases h
/-- a set of sets with one changed -/
def updS (S : Nat → AS) (i : Nat) (Z : AS) : Nat → AS := fun j => if j = i then Z else S j
theorem updS_same {i : Nat} {Z : AS} : updS S i Z i = Z := if_pos rfl
theorem updS_ne {i j : Nat} {Z : AS} (h : j ≠ i) : updS S i Z j = S j := if_neg h
/-- a slot is forgotten -/
theorem RI.kill {K : PySem.W.Frag} {G : Nat → Nat} {σ : L2.St} {env : Env} (r : RI K G F H σ env S) (i : Nat) : RI K G F H σ (env.set i none) (updS S i noA) := by
  refine ⟨r.sub, fun j d g => ?_, fun j l a p q => ?_, fun j a p => ?_, by rw [List.length_set]; exact r.len⟩
  · by_cases h : i = j
    · subst h; exact (nomatch gt_set_self g)
    · rw [gt_set_ne h] at g
      rw [updS_ne (Ne.symm h)]
      exact r.cell j d g
  · by_cases hj : j = i
    · subst hj; rw [updS_same] at p; exact p.elim
    · by_cases hl : l = i
      · subst hl; rw [updS_same] at q; exact q.elim
      · rw [updS_ne hj] at p; rw [updS_ne hl] at q; exact r.dj j l a p q
  · by_cases hj : j = i
    · subst hj; rw [updS_same] at p; exact p.elim
    · rw [updS_ne hj] at p; exact r.lv j a p
theorem Stp.kill {i : Nat} (h : i ∈ T) : Stp T F H S F H (updS S i noA) :=
  ⟨Same.refl _, fun _ o e => ⟨o, e⟩, fun _ _ e _ => e, fun _ _ _ e _ => e, fun j a q => by
    by_cases hj : j = i
    · subst hj; rw [updS_same] at q; exact q.elim
    · rw [updS_ne hj] at q; exact .inl q, fun j hj => updS_ne fun e => hj (e ▸ h)⟩
theorem sem_mv {i : Nat} : SemE C E (tVar i) (evE C.cal (.mv i)) (C.g i) [i] := fun F H σ env S ri Q post => by
  obtain ⟨d, hd, post⟩ := getv_ok (show Post C E [i] F H S ((getv i env).bind fun d => .ok (d, env.set i none)) _ from post)
  obtain ⟨v, e, r⟩ := ri.cell i d hd
  refine ⟨v, e, post F H (updS S i noA) v (S i) (Stp.kill (by simp)) (ri.kill i) r fun a z => ⟨ri.lv i a z, .inr ⟨i, by simp, z⟩, fun j w => ?_⟩⟩
  by_cases hj : j = i
  · subst hj; rw [updS_same] at w; exact w
  · rw [updS_ne hj] at w; exact hj (ri.dj j i a w z)
theorem sem_int {z : Int} {n : Nat} : SemE C E (tC (.int z)) (evE C.cal (.int z)) n T := fun F H σ env S ri Q post => post F H S _ noA Stp.refl ri RO.int Frs.none
theorem sem_str {z : Str} {n : Nat} : SemE C E (tC (.str z)) (evE C.cal (.str z)) n T := fun F H σ env S ri Q post => post F H S _ noA Stp.refl ri RO.str Frs.none
theorem sem_bl {z : Bool} {n : Nat} : SemE C E (tC (.bl z)) (evE C.cal (.bl z)) n T := fun F H σ env S ri Q post => post F H S _ noA Stp.refl ri RO.bl Frs.none
theorem sem_non {n : Nat} : SemE C E (tC .non) (evE C.cal .non) n T := fun F H σ env S ri Q post => post F H S _ noA Stp.refl ri RO.non Frs.none

/-! ### operators -/
theorem sem_un {t : TE} {ev : Env → R (D × Env)} {n m : Nat} {b : Option Nat} {al : Bool} {f : D → Option D} {r : V → Hp → VK → Prop} (sa : SemP C E t ev m T b) (vo : VOp1 C.K al n f r) (hl : al = true → m ≤ 1) :
    SemE C E (fun σ H Q => t σ H fun x H1 => r x H1 Q) (fun env => (ev env).bind fun p => (ofOpt (f p.1)).bind fun d => .ok (d, p.2)) n T := fun F H σ env S ri Q post => by
  refine sa F H σ env S ri _ (post.bind.to (fun _ h => h) fun p _ hp F1 H1 S1 va Za st1 ri1 ra za => ?_)
  obtain ⟨d, hd, hq⟩ := hp.opt
  refine vo F1 H1 p.1 d va m Za ri1.sub ra hl hd Q fun F3 H3 v Z ext rz fz => ?_
  refine hq F3 H3 S1 v Z ?_ (ri1.ext ext) rz (st1.frs ri1 fz)
  exact (st1.trans (T2 := []) ext.stp).weak fun i hi => by simpa using hi
theorem sem_bin {ta tb : TE} {ea eb : Env → R (D × Env)} {na nb n : Nat} {ba bb : Option Nat} {al : Bool} {f : D → D → Option D} {r : R2} (sa : SemP C E ta ea na T1 ba) (sb : SemP C E tb eb nb T2 bb) (hb : ∀ i, ba = some i → i ∉ T2)
    (vo : VOp2 C.K al n f r) (hl : al = true → na ≤ 1 ∧ nb ≤ 1) :
    SemE C E (fun σ H Q => ta σ H fun x H1 => tb σ H1 fun y H2 => r x y H2 Q) (fun env => (ea env).bind fun p => (eb p.2).bind fun q => (ofOpt (f p.1 q.1)).bind fun d => .ok (d, q.2)) n (T1 ++ T2) := fun F H σ env S ri Q post => by
  refine sa F H σ env S ri _ (post.bind.to (fun _ h => List.mem_append_left _ h) fun p _ hp F1 H1 S1 va Za st1 ri1 ra za => ?_)
  refine sb F1 H1 σ p.2 S1 ri1 _ (hp.bind.step st1 (fun _ h => List.mem_append_left _ h) (fun _ h => List.mem_append_right _ h) fun q _ hq F2 H2 S2 vb Zb st2 ri2 rb zb => ?_)
  obtain ⟨d, hd, hq⟩ := hq.opt
  have ra2 : RO C.K F2 H2 na p.1 va Za := st2.ro ra fun a z i hi w => hb i ((za a z).2 i w) hi
  refine vo F2 H2 p.1 q.1 d va vb na nb Za Zb ri2.sub ra2 rb hl hd Q fun F3 H3 v Z ext rz fz => ?_
  refine hq F3 H3 S2 v Z ?_ (ri2.ext ext) rz ((st1.trans st2).frs ri2 fz)
  exact ((st1.trans st2).trans (T2 := []) ext.stp).weak fun i hi => by simpa using hi
/-- one of two readings, by the kinds of the values -/
theorem sem_bin2 {ta tb : TE} {ea eb : Env → R (D × Env)} {na nb n n' : Nat} {ba bb : Option Nat} {al al' : Bool} {f f1 f2 : D → D → Option D} {r1 r2 : R2} (sa : SemP C E ta ea na T1 ba) (sb : SemP C E tb eb nb T2 bb) (hb : ∀ i, ba = some i → i ∉ T2)
    (v1 : VOp2 C.K al n f1 r1) (v2 : VOp2 C.K al' n f2 r2) (hl : al = true → na ≤ 1 ∧ nb ≤ 1) (hl' : al' = true → na ≤ 1 ∧ nb ≤ 1) (hf : ∀ a b d, f a b = some d → f1 a b = some d ∨ f2 a b = some d) :
    SemE C E (fun σ H Q => (ta σ H fun x H1 => tb σ H1 fun y H2 => r1 x y H2 Q) ∨ ta σ H fun x H1 => tb σ H1 fun y H2 => r2 x y H2 Q) (fun env => (ea env).bind fun p => (eb p.2).bind fun q => (ofOpt (f p.1 q.1)).bind fun d => .ok (d, q.2)) n (T1 ++ T2) := fun F H σ env S ri Q post => by
  have s1 := sem_bin sa sb hb v1 hl F H σ env S ri Q
  have s2 := sem_bin sa sb hb v2 hl' F H σ env S ri Q
  revert post s1 s2
  simp only
  cases ea env with
  | bad => intro post; exact post.elim
  | exc c d => intro post s1 s2; exact .inl (s1 post)
  | ok p =>
    simp only [R.bind_ok]
    cases eb p.2 with
    | bad => intro post; exact post.elim
    | exc c d => intro post s1 s2; exact .inl (s1 post)
    | ok q =>
      simp only [R.bind_ok]
      intro post s1 s2
      obtain ⟨d, hd, hq⟩ := post.opt
      rcases hf _ _ _ hd with e | e
      · exact .inl (s1 (by rw [e]; exact hq))
      · exact .inr (s2 (by rw [e]; exact hq))
/-- a part of what a slot owns -/
theorem sem_binP {ta tb : TE} {ea eb : Env → R (D × Env)} {n nb : Nat} {ba bb : Option Nat} {f : D → D → Option D} {r : R2} (sa : SemP C E ta ea (n + 2) T1 ba) (sb : SemP C E tb eb nb T2 bb) (hb : ∀ i, ba = some i → i ∉ T2)
    (hr : ∀ (F2 H2 : Hp) (da db d : D) (va vb : V) (Za Zb : AS), Same F2 H2 → RO C.K F2 H2 (n + 2) da va Za → RO C.K F2 H2 nb db vb Zb → f da db = some d → ∀ Q : VK, (∀ v Z, RO C.K F2 H2 (n + 1) d v Z → (∀ a, Z a → Za a) → Q v H2) → r va vb H2 Q) :
    SemP C E (fun σ H Q => ta σ H fun x H1 => tb σ H1 fun y H2 => r x y H2 Q) (fun env => (ea env).bind fun p => (eb p.2).bind fun q => (ofOpt (f p.1 q.1)).bind fun d => .ok (d, q.2)) (n + 1) (T1 ++ T2) ba := fun F H σ env S ri Q post => by
  refine sa F H σ env S ri _ (post.bind.to (fun _ h => List.mem_append_left _ h) fun p ep hp F1 H1 S1 va Za st1 ri1 ra za => ?_)
  refine sb F1 H1 σ p.2 S1 ri1 _ (hp.bind.step st1 (fun _ h => List.mem_append_left _ h) (fun _ h => List.mem_append_right _ h) fun q eq hq F2 H2 S2 vb Zb st2 ri2 rb zb => ?_)
  obtain ⟨d, hd, hq⟩ := hq.opt
  have ra2 : RO C.K F2 H2 (n + 2) p.1 va Za := st2.ro ra fun a z i hi w => hb i ((za a z).2 i w) hi
  refine hr F2 H2 p.1 q.1 d va vb Za Zb ri2.sub ra2 rb hd Q fun v Z rz hz => ?_
  refine hq F2 H2 S2 v Z (st1.trans st2) ri2 rz fun a z => ?_
  obtain ⟨⟨o, e⟩, h⟩ := za a (hz a z)
  refine ⟨st2.there a o e, fun i w => ?_⟩
  rcases st2.fp i a w with w | ⟨j, hj, w⟩ | w
  · exact h i w
  · exact absurd hj (hb j (h j w))
  · rw [e] at w; cases w
theorem vp_pix {n nb : Nat} (F2 H2 : Hp) (da db d : D) (va vb : V) (Za Zb : AS) (s : Same F2 H2) (ra : RO C.K F2 H2 (n + 2) da va Za) (rb : RO C.K F2 H2 nb db vb Zb) (e : opF2 .pix da db = some d) (Q : VK) (q : ∀ v Z, RO C.K F2 H2 (n + 1) d v Z → (∀ a, Z a → Za a) → Q v H2) : rIxL C.K va vb H2 Q := by
  cases da <;> cases db <;> first | (cases e; done) | skip
  rename_i ds i
  have e : atI ds i = some d := e
  obtain ⟨a, xs, T, rfl, ea', f, sa', hl, ht, hd, r⟩ := ra
  unfold atI at e
  cases e5 : ixN ds.length i with
  | none => rw [e5] at e; cases e
  | some j =>
    rw [e5] at e
    simp only [Option.bind_some] at e
    obtain ⟨hj, _⟩ := List.getElem?_eq_some_iff.mp e
    have hj' : j < xs.length := by omega
    refine ⟨a, xs, i, xs[j], rfl, rb.int_v, .inl (.inl ea'), ?_, q _ (T j) (r j _ _ e (List.getElem?_eq_getElem hj')) fun b z => (ht j b z).1⟩
    unfold atI
    rw [← hl, e5]
    exact List.getElem?_eq_getElem hj'
theorem valD_at {κ : Type} [DecidableEq κ] {P : Nat → D → V → Prop} : ∀ {ds : List (κ × D)} {xs : List (κ × V)}, ds.length = xs.length → (∀ (i : Nat) (p : κ × D) (q : κ × V), ds[i]? = some p → xs[i]? = some q → p.1 = q.1 ∧ P i p.2 q.2) →
    ∀ {k : κ} {d : D}, valD ds k = some d → ∃ i v, valV xs k = some v ∧ P i d v
  | [], _, _, _, k, d, h => by cases h
  | _ :: _, [], h, _, _, _, _ => by simp at h
  | (a, d) :: ds, (b, v) :: xs, h, g, k, d', hd => by
    obtain ⟨e, p⟩ := g 0 _ _ rfl rfl
    have e : a = b := e
    subst e
    by_cases q : a = k
    · have : d = d' := by simpa [valD, List.find?_cons, q] using hd
      subst this
      exact ⟨0, v, by simp [valV, List.find?_cons, q], p⟩
    · have e1 : valD ((a, d) :: ds) k = valD ds k := by simp [valD, List.find?_cons, q]
      have e2 : valV ((a, v) :: xs) k = valV xs k := by simp [valV, List.find?_cons, q]
      rw [e1] at hd
      rw [e2]
      obtain ⟨i, w, h1, h2⟩ := valD_at (P := fun i => P (i + 1)) (ds := ds) (xs := xs) (by simpa using h) (fun i p q h1 h2 => g (i + 1) p q (by simpa using h1) (by simpa using h2)) hd
      exact ⟨i + 1, w, h1, h2⟩
theorem vp_pixd {n nb : Nat} (F2 H2 : Hp) (da db d : D) (va vb : V) (Za Zb : AS) (s : Same F2 H2) (ra : RO C.K F2 H2 (n + 2) da va Za) (rb : RO C.K F2 H2 nb db vb Zb) (e : opF2 .pixd da db = some d) (Q : VK) (q : ∀ v Z, RO C.K F2 H2 (n + 1) d v Z → (∀ a, Z a → Za a) → Q v H2) : rIxDK va vb H2 Q := by
  cases da <;> first | (cases db <;> cases e; done) | skip
  rename_i kvs
  have e : (keyOf db).bind (fun k => valD kvs k) = some d := by cases db <;> exact e
  obtain ⟨k, hk, e⟩ := Option.bind_eq_some_iff.mp e
  obtain ⟨a, xs, T, rfl, ea', f, sa', hl, ht, hd, r⟩ := ra
  obtain ⟨i, v, hv, rv⟩ := valD_at (P := fun i d v => RO C.K F2 H2 (n + 1) d v (T i)) hl (fun i p q h1 h2 => r i p q h1 h2) e
  rw [key_v hk rb]
  exact ⟨a, v, rfl, hv ▸ DGet.k ea', q v (T i) rv fun b z => (ht i b z).1⟩
/-! ### truth, and, or, if -/
theorem asB_some {d : D} {b : Bool} (h : asB d = some b) : d = .bl b := by cases d <;> simp [asB] at h; rw [h]
/-- a reading as a test: True or False -/
theorem sem_tB {t : TE} {ev : Env → R (D × Env)} {n : Nat} (sa : SemE C E t ev n T) : SemT C E (fun σ H Q => t σ H fun x H' => ∃ k, x = .bl k ∧ Q k H') (fun env => (ev env).bind fun p => (ofOpt (asB p.1)).bind fun b => .ok (b, p.2)) T := fun F H σ env S ri Q post => by
  refine sa F H σ env S ri _ (post.bind.to (fun _ h => h) fun p _ hp F1 H1 S1 va Za st1 ri1 ra za => ?_)
  obtain ⟨b, hb, hq⟩ := hp.opt
  rw [asB_some hb] at ra
  exact ⟨b, ra.bl_v, hq F1 H1 S1 st1 ri1⟩
theorem truth_ok {K : PySem.W.Frag} {F H : Hp} {n : Nat} {d : D} {v : V} {Z : AS} {b : Bool} (r : RO K F H n d v Z) (s : Same F H) (h : truth d = some b) : TruV K v H b := by
  cases d <;> simp [truth] at h
  · rw [r.non_v]; exact h
  · rw [r.bl_v]; exact h.symm
  · rw [r.int_v]; exact h.symm
  · obtain ⟨a, xs, rfl, ea, rr⟩ := r.rdL s
    refine .inl ⟨xs, .inl (.inl ea), ?_⟩
    have := rr.length
    rename_i ds
    cases ds <;> cases xs <;> cases b <;> simp at this h ⊢
theorem sem_tT {t : TE} {ev : Env → R (D × Env)} {n : Nat} {b : Option Nat} (sa : SemP C E t ev n T b) : SemT C E (fun σ H Q => t σ H fun x H' => ∃ k, TruV C.K x H' k ∧ Q k H') (fun env => (ev env).bind fun p => (ofOpt (truth p.1)).bind fun b => .ok (b, p.2)) T := fun F H σ env S ri Q post => by
  refine sa F H σ env S ri _ (post.bind.to (fun _ h => h) fun p _ hp F1 H1 S1 va Za st1 ri1 ra za => ?_)
  obtain ⟨b, hb, hq⟩ := hp.opt
  exact ⟨b, truth_ok ra ri1.sub hb, hq F1 H1 S1 st1 ri1⟩
theorem sem_tN {t : TT} {ev : Env → R (Bool × Env)} (sa : SemT C E t ev T) : SemT C E (tNot t) (fun env => (ev env).bind fun p => .ok (!p.1, p.2)) T := fun F H σ env S ri Q post =>
  sa F H σ env S ri _ (post.bind.to (fun _ h => h) fun p _ hp F1 H1 S1 st1 ri1 => hp F1 H1 S1 st1 ri1)
theorem sem_tAnd {t u : TT} {ea eb : Env → R (Bool × Env)} (sa : SemT C E t ea T1) (sb : SemT C E u eb T2) : SemT C E (tAnd t u) (fun env => (ea env).bind fun p => if p.1 = true then eb p.2 else .ok (false, p.2)) (T1 ++ T2) := fun F H σ env S ri Q post => by
  refine sa F H σ env S ri _ (post.bind.to (fun _ h => List.mem_append_left _ h) fun p _ hp F1 H1 S1 st1 ri1 => ?_)
  by_cases c : p.1 = true
  · rw [if_pos c] at hp ⊢
    exact sb F1 H1 σ p.2 S1 ri1 _ (hp.step st1 (fun _ h => List.mem_append_left _ h) (fun _ h => List.mem_append_right _ h) fun q _ hq F2 H2 S2 st2 ri2 => hq F2 H2 S2 (st1.trans st2) ri2)
  · rw [if_neg c] at hp ⊢
    exact hp F1 H1 S1 (st1.weak fun _ h => List.mem_append_left _ h) ri1
theorem sem_tOr {t u : TT} {ea eb : Env → R (Bool × Env)} (sa : SemT C E t ea T1) (sb : SemT C E u eb T2) : SemT C E (tOr t u) (fun env => (ea env).bind fun p => if p.1 = true then .ok (true, p.2) else eb p.2) (T1 ++ T2) := fun F H σ env S ri Q post => by
  refine sa F H σ env S ri _ (post.bind.to (fun _ h => List.mem_append_left _ h) fun p _ hp F1 H1 S1 st1 ri1 => ?_)
  by_cases c : p.1 = true
  · rw [if_pos c] at hp ⊢
    exact hp F1 H1 S1 (st1.weak fun _ h => List.mem_append_left _ h) ri1
  · rw [if_neg c] at hp ⊢
    exact sb F1 H1 σ p.2 S1 ri1 _ (hp.step st1 (fun _ h => List.mem_append_left _ h) (fun _ h => List.mem_append_right _ h) fun q _ hq F2 H2 S2 st2 ri2 => hq F2 H2 S2 (st1.trans st2) ri2)
/-- values: not, and, or -/
theorem sem_nt {t : TE} {ev : Env → R (D × Env)} {n m : Nat} (sa : SemE C E t ev n T) : SemE C E (tNotV t) (fun env => (ev env).bind fun p => (ofOpt (asB p.1)).bind fun b => .ok (.bl !b, p.2)) m T := fun F H σ env S ri Q post => by
  refine sa F H σ env S ri _ (post.bind.to (fun _ h => h) fun p _ hp F1 H1 S1 va Za st1 ri1 ra za => ?_)
  obtain ⟨b, hb, hq⟩ := hp.opt
  rw [asB_some hb] at ra
  exact ⟨b, ra.bl_v, hq F1 H1 S1 _ noA st1 ri1 RO.bl Frs.none⟩
theorem sem_and {t u : TE} {ea eb : Env → R (D × Env)} {n m : Nat} (sa : SemE C E t ea n T1) (sb : SemE C E u eb m T2) : SemE C E (tAndV t u) (fun env => (ea env).bind fun p => (ofOpt (asB p.1)).bind fun b => if b = true then eb p.2 else .ok (.bl false, p.2)) m (T1 ++ T2) := fun F H σ env S ri Q post => by
  refine sa F H σ env S ri _ (post.bind.to (fun _ h => List.mem_append_left _ h) fun p _ hp F1 H1 S1 va Za st1 ri1 ra za => ?_)
  obtain ⟨b, hb, hq⟩ := hp.opt
  rw [asB_some hb] at ra
  refine ⟨b, ra.bl_v, ?_⟩
  by_cases c : b = true
  · rw [if_pos c] at hq ⊢
    exact sb F1 H1 σ p.2 S1 ri1 _ (hq.step st1 (fun _ h => List.mem_append_left _ h) (fun _ h => List.mem_append_right _ h) fun q _ hq F2 H2 S2 v Z st2 ri2 r f => hq F2 H2 S2 v Z (st1.trans st2) ri2 r (f.back st1))
  · rw [if_neg c] at hq ⊢
    exact hq F1 H1 S1 _ noA (st1.weak fun _ h => List.mem_append_left _ h) ri1 RO.bl Frs.none
theorem sem_or {t u : TE} {ea eb : Env → R (D × Env)} {n m : Nat} (sa : SemE C E t ea n T1) (sb : SemE C E u eb m T2) : SemE C E (tOrV t u) (fun env => (ea env).bind fun p => (ofOpt (asB p.1)).bind fun b => if b = true then .ok (.bl true, p.2) else eb p.2) m (T1 ++ T2) := fun F H σ env S ri Q post => by
  refine sa F H σ env S ri _ (post.bind.to (fun _ h => List.mem_append_left _ h) fun p _ hp F1 H1 S1 va Za st1 ri1 ra za => ?_)
  obtain ⟨b, hb, hq⟩ := hp.opt
  rw [asB_some hb] at ra
  refine ⟨b, ra.bl_v, ?_⟩
  by_cases c : b = true
  · rw [if_pos c] at hq ⊢
    exact hq F1 H1 S1 _ noA (st1.weak fun _ h => List.mem_append_left _ h) ri1 RO.bl Frs.none
  · rw [if_neg c] at hq ⊢
    exact sb F1 H1 σ p.2 S1 ri1 _ (hq.step st1 (fun _ h => List.mem_append_left _ h) (fun _ h => List.mem_append_right _ h) fun q _ hq F2 H2 S2 v Z st2 ri2 r f => hq F2 H2 S2 v Z (st1.trans st2) ri2 r (f.back st1))
theorem sem_ite {t : TT} {u w : TE} {et : Env → R (Bool × Env)} {ea eb : Env → R (D × Env)} {n T3 } (st : SemT C E t et T) (sa : SemE C E u ea n T1) (sb : SemE C E w eb n T2) (h3 : T3 = T ++ (T1 ++ T2)) :
    SemE C E (tIf t u w) (fun env => (et env).bind fun p => if p.1 = true then ea p.2 else eb p.2) n T3 := fun F H σ env S ri Q post => by
  subst h3
  refine st F H σ env S ri _ (post.bind.to (fun _ h => List.mem_append_left _ h) fun p _ hp F1 H1 S1 st1 ri1 => ?_)
  by_cases c : p.1 = true
  · rw [if_pos c] at hp ⊢
    exact sa F1 H1 σ p.2 S1 ri1 _ (hp.step st1 (fun _ h => List.mem_append_left _ h) (fun _ h => List.mem_append_right _ (List.mem_append_left _ h)) fun q _ hq F2 H2 S2 v Z st2 ri2 r f =>
      hq F2 H2 S2 v Z ((st1.trans st2).weak fun i h => by simp at h ⊢; rcases h with h | h; exact .inl h; exact .inr (.inl h)) ri2 r ((f.back st1).weak fun i h => by simp at h ⊢; rcases h with h | h; exact .inl h; exact .inr (.inl h)))
  · rw [if_neg c] at hp ⊢
    exact sb F1 H1 σ p.2 S1 ri1 _ (hp.step st1 (fun _ h => List.mem_append_left _ h) (fun _ h => List.mem_append_right _ (List.mem_append_right _ h)) fun q _ hq F2 H2 S2 v Z st2 ri2 r f =>
      hq F2 H2 S2 v Z ((st1.trans st2).weak fun i h => by simp at h ⊢; rcases h with h | h; exact .inl h; exact .inr (.inr h)) ri2 r ((f.back st1).weak fun i h => by simp at h ⊢; rcases h with h | h; exact .inl h; exact .inr (.inr h)))
theorem sem_chain {ta tb tc : TE} {ea eb ec : Env → R (D × Env)} {na nb nc : Nat} {ba bb bc : Option Nat} {n : Nat} {T3 : List Nat} {f f' : D → D → Option D} {r r' : R2} (sa : SemP C E ta ea na T1 ba) (sb : SemP C E tb eb nb T2 bb) (sc : SemP C E tc ec nc T3 bc) (hb : ∀ i, ba = some i → i ∉ T2) (hc : ∀ i, bb = some i → i ∉ T3)
    (vo : VOp2 C.K false n f r) (vo' : VOp2 C.K false n f' r') :
    SemE C E (tChain r r' ta tb tc) (fun env => (ea env).bind fun p => (eb p.2).bind fun q => (ofOpt (f p.1 q.1)).bind fun d => (ofOpt (asB d)).bind fun k => if k = true then (ec q.2).bind fun s => (ofOpt (f' q.1 s.1)).bind fun d => .ok (d, s.2) else .ok (.bl false, q.2)) n (T1 ++ (T2 ++ T3)) := fun F H σ env S ri Q post => by
  refine sa F H σ env S ri _ (post.bind.to (fun _ h => List.mem_append_left _ h) fun p _ hp F1 H1 S1 va Za st1 ri1 ra za => ?_)
  refine sb F1 H1 σ p.2 S1 ri1 _ (hp.bind.step st1 (fun _ h => List.mem_append_left _ h) (fun _ h => List.mem_append_right _ (List.mem_append_left _ h)) fun q _ hq F2 H2 S2 vb Zb st2 ri2 rb zb => ?_)
  obtain ⟨d, hd, hq⟩ := hq.opt
  obtain ⟨k, hk, hq⟩ := hq.opt
  have ra2 : RO C.K F2 H2 na p.1 va Za := st2.ro ra fun a z i hi w => hb i ((za a z).2 i w) hi
  refine vo F2 H2 p.1 q.1 d va vb na nb Za Zb ri2.sub ra2 rb (fun h => nomatch h) hd _ fun F3 H3 v Z ext rz fz => ?_
  rw [asB_some hk] at rz
  refine ⟨k, rz.bl_v, ?_⟩
  have s3 : Stp (T1 ++ T2) F H S F3 H3 S2 := ((st1.trans st2).trans (T2 := []) ext.stp).weak fun i hi => by simpa using hi
  have ri3 := ri2.ext ext
  by_cases c : k = true
  · rw [if_pos c] at hq ⊢
    refine sc F3 H3 σ q.2 S2 ri3 _ (hq.bind.step s3 (fun i h => by simp at h ⊢; rcases h with h | h; exact .inl h; exact .inr (.inl h)) (fun _ h => List.mem_append_right _ (List.mem_append_right _ h)) fun s _ hs F4 H4 S4 vc Zc st4 ri4 rc zc => ?_)
    obtain ⟨d', hd', hs⟩ := hs.opt
    have rb2 : RO C.K F3 H3 nb q.1 vb Zb := rb.frame ext.f fun a o _ e f => ⟨ext.n a o e f, ext.h a o e⟩
    have rb4 : RO C.K F4 H4 nb q.1 vb Zb := st4.ro rb2 fun a z i hi w => hc i ((zb a z).2 i w) hi
    refine vo' F4 H4 q.1 s.1 d' vb vc nb nc Zb Zc ri4.sub rb4 rc (fun h => nomatch h) hd' Q fun F5 H5 v Z ext5 rz5 fz5 => ?_
    refine hs F5 H5 S4 v Z ?_ (ri4.ext ext5) rz5 ?_
    · exact ((s3.trans st4).trans (T2 := []) ext5.stp).weak fun i hi => by simpa [or_assoc] using hi
    · exact ((s3.trans st4).frs ri4 fz5).weak fun i hi => by simpa [or_assoc] using hi
  · rw [if_neg c] at hq ⊢
    exact hq F3 H3 S2 _ noA (s3.weak fun i h => by simp at h ⊢; rcases h with h | h; exact .inl h; exact .inr (.inl h)) ri3 RO.bl Frs.none
/-! ### lists of expressions, displays -/
theorem sem_nil {n : Nat} : SemL C E tNil (fun env => .ok ([], env)) n T := fun F H σ env S ri Q post => post F H S [] (fun _ => noA) Stp.refl ri rfl (fun i d v h _ => by simp at h) (fun _ => Frs.none) fun _ _ _ h => h.elim
theorem sem_cons {t : TE} {ts : TA} {ea : Env → R (D × Env)} {es : Env → R (List D × Env)} {n : Nat} (sa : SemE C E t ea n T1) (sb : SemL C E ts es n T2) :
    SemL C E (tCons t ts) (fun env => (ea env).bind fun p => (es p.2).bind fun q => .ok (p.1 :: q.1, q.2)) n (T1 ++ T2) := fun F H σ env S ri Q post => by
  refine sa F H σ env S ri _ (post.bind.to (fun _ h => List.mem_append_left _ h) fun p _ hp F1 H1 S1 va Za st1 ri1 ra za => ?_)
  refine sb F1 H1 σ p.2 S1 ri1 _ (hp.bind.step st1 (fun _ h => List.mem_append_left _ h) (fun _ h => List.mem_append_right _ h) fun q _ hq F2 H2 S2 vs Z st2 ri2 hl rz fz dz => ?_)
  refine hq F2 H2 S2 (va :: vs) (fun i => match i with | 0 => Za | i + 1 => Z i) (st1.trans st2) ri2 (by simp [hl]) (fun i d v h1 h2 => ?_) (fun i => ?_) (fun i j a h1 h2 => ?_)
  · cases i with
    | zero => simp at h1 h2; subst h1 h2; exact st2.val ra za
    | succ i => exact rz i d v (by simpa using h1) (by simpa using h2)
  · cases i with
    | zero => exact za.on st2
    | succ i => exact (fz i).back st1
  · have old : ∀ j, Za a → Z j a → False := fun j z w => by
      obtain ⟨⟨o, e⟩, _, n1⟩ := za a z
      rcases (fz j a w).2.1 with e' | ⟨i', _, h⟩
      · rw [e] at e'; cases e'
      · exact n1 i' h
    cases i with
    | zero => cases j with
      | zero => rfl
      | succ j => exact (old j h1 h2).elim
    | succ i => cases j with
      | zero => exact (old i h2 h1).elim
      | succ j => rw [dz i j a h1 h2]
theorem SemL.lw0 {t : TA} {ev : Env → R (List D × Env)} {n : Nat} : SemL C E t ev n T → SemL C E t ev n T := id
theorem sem_lst {t : TA} {ev : Env → R (List D × Env)} {n : Nat} (sa : SemL C E t ev n T) (hz : ∀ env p, ev env = .ok p → p.1.length ≤ 1000) : SemE C E (tLst t) (fun env => (ev env).bind fun p => .ok (.lst p.1, p.2)) (n + 1) T := fun F H σ env S ri Q post => by
  refine sa F H σ env S ri _ (post.bind.to (fun _ h => h) fun p ep hp F1 H1 S1 vs Z st1 ri1 hl rz fz dz => ?_)
  refine ⟨by rw [← hl]; exact Nat.le_of_lt (small1000 (hz env p ep)), fun a ha => ?_⟩
  have ext : Ext F1 H1 F1 (upd H1 a (.lst vs)) := Ext.new ri1.sub ha
  have dom : ∀ i b, Z i b → b ≠ a := fun i b z e => by
    subst e
    obtain ⟨⟨o, e'⟩, _⟩ := fz i b z
    rw [ha] at e'; cases e'
  refine hp F1 _ S1 (.ref a) (fun b => b = a ∨ ∃ i, Z i b) ((st1.trans (T2 := []) ext.stp).weak fun i hi => by simpa using hi) (ri1.ext ext) ?_ fun b hb => ?_
  · exact ⟨a, vs, Z, rfl, upd_same, ri1.sub.free ha, .inl rfl, hl, fun i b z => ⟨.inr ⟨i, z⟩, dom i b z⟩, dz, fun i d v h1 h2 => (rz i d v h1 h2).frame ext.f fun b o _ e f => ⟨ext.n b o e f, ext.h b o e⟩⟩
  · rcases hb with rfl | ⟨i, z⟩
    · exact ⟨⟨_, upd_same⟩, .inl (none_of st1.there ha), fun i => ri1.new ha⟩
    · obtain ⟨⟨o, e⟩, h2, h3⟩ := fz i b z
      exact ⟨⟨o, ext.h b o e⟩, h2, h3⟩
theorem sem_tup {t : TA} {ev : Env → R (List D × Env)} {n : Nat} (sa : SemL C E t ev 0 T) (hz : ∀ env p, ev env = .ok p → p.1.length ≤ 1000) : SemE C E (tTup t) (fun env => (ev env).bind fun p => .ok (.tup p.1, p.2)) n T := fun F H σ env S ri Q post => by
  refine sa F H σ env S ri _ (post.bind.to (fun _ h => h) fun p ep hp F1 H1 S1 vs Z st1 ri1 hl rz fz dz => ?_)
  refine ⟨by rw [← hl]; exact Nat.le_of_lt (small1000 (hz env p ep)), fun a ha => ?_⟩
  have ext : Ext F1 H1 (upd F1 a (.tup vs)) (upd H1 a (.tup vs)) := Ext.newF ri1.sub ha
  refine hp _ _ S1 (.ref a) noA ((st1.trans (T2 := []) ext.stp).weak fun i hi => by simpa using hi) (ri1.ext ext) (RO.tup ⟨a, vs, rfl, .inl (.inl upd_same), RpL.of hl fun i d v h1 h2 => Rp.mono ext.f (rz i d v h1 h2)⟩) Frs.none
end
end DL
/-! DL7: slices, calls, what is walked, comprehensions. -/
namespace DL
open PySem PySem.Spec PyProof.Rows L2

section
variable {C : CC} {E : XK} {T T1 T2 : List Nat} {F H F1 H1 F2 H2 : Hp} {S S1 S2 : Nat → AS}
/-! ### slices -/
def SemO (C : CC) (E : XK) (t : TO) (ev : Env → R (Option Int × Env)) (T : List Nat) : Prop :=
  ∀ F H σ env S, RI C.K C.g F H σ env S → ∀ Q : Option Int → Hp → Prop,
    Post C E T F H S (ev env) (fun p => ∀ F' H' S', Stp T F H S F' H' S' → RI C.K C.g F' H' σ p.2 S' → Q p.1 H') → t σ H Q
theorem sem_oNone : SemO C E tNoPart (fun env => .ok (none, env)) T := fun F H σ env S ri Q post => post F H S Stp.refl ri
theorem sem_oSome {t : TE} {ev : Env → R (D × Env)} {n : Nat} {b : Option Nat} (sa : SemP C E t ev n T b) : SemO C E (tPart t) (fun env => (ev env).bind fun q => (ofOpt (asI q.1)).bind fun i => .ok (some i, q.2)) T := fun F H σ env S ri Q post => by
  refine sa F H σ env S ri _ (post.bind.to (fun _ h => h) fun p _ hp F1 H1 S1 va Za st1 ri1 ra za => ?_)
  obtain ⟨i, hi, hq⟩ := hp.opt
  have : p.1 = .int i := by cases h : p.1 <;> rw [h] at hi <;> simp [asI] at hi; rw [hi]
  rw [this] at ra
  exact ⟨i, ra.int_v, hq F1 H1 S1 st1 ri1⟩
/-- the rule of slices -/
def rSl (K : PySem.W.Frag) : V → Option Int → Option Int → Hp → VK → Prop := fun x lo hi H Q => rSlL K x lo hi H Q ∨ (rSlS x lo hi H Q ∨ rSlA K x lo hi H Q)
theorem cut_rp {K : PySem.W.Frag} {ds : List D} {xs : List V} (r : RpL K F ds xs) (l h : Option Int) : RpL K F (cutL ds l h) (cutV xs l h) := by
  unfold cutL cutV
  rw [← r.length]
  exact (r.drop _).take _
theorem vsl {da d : D} {va : V} {na : Nat} {Za : AS} (s : Same F H) (ra : RO C.K F H na da va Za) (hn : na ≤ 1) {l h : Option Int} (e : slcF da l h = some d) (Q : VK)
    (q : ∀ F' H' v Z, Ext F H F' H' → RO C.K F' H' 1 d v Z → (∀ a, Z a → H a = none ∧ ∃ o, H' a = some o) → Q v H') : rSl C.K va l h H Q := by
  cases da <;> first | (cases e; done) | skip
  · rename_i z
    have e : (if z.length ≤ sizeLine then some (D.str (cutS z l h)) else none) = some d := e
    by_cases c : z.length ≤ sizeLine
    · rw [if_pos c] at e; cases e
      exact .inr (.inl ⟨z, ra.str_v, c, q F H _ noA (Ext.refl s) RO.str fun _ z => z.elim⟩)
    · rw [if_neg c] at e; cases e
  · cases e
    obtain ⟨a, xs, rfl, ea, r⟩ := ra.items hn s
    exact .inl ⟨a, xs, rfl, .inl (.inl ea), fun p hp => q F _ _ (fun b => b = p) (Ext.new s hp) (RO.new upd_same (s.free hp) (cut_rp r l h)) fun a e => by cases e; exact ⟨hp, _, upd_same⟩⟩
  · cases e
    rename_i ds
    obtain ⟨a, xs, rfl, ea, r⟩ := ra.tup_v
    refine .inr (.inr ⟨a, xs, rfl, same_seqT s ea, fun c => ?_, fun c p hp => ?_⟩)
    · refine q F H _ noA (Ext.refl s) (RO.tup ⟨a, xs, rfl, ea, ?_⟩) fun _ z => z.elim
      have e1 : cutL ds l h = ds := by
        unfold cutL
        rw [r.length, c.1, c.2, List.drop_zero, Nat.sub_zero]
        exact List.take_of_length_le (by rw [r.length]; exact Nat.le_refl _)
      rw [e1]; exact r
    · exact q (upd F p (.tup (cutV xs l h))) _ _ noA (Ext.newF s hp) (RO.tup ⟨p, _, rfl, .inl (.inl upd_same), (cut_rp r l h).mono (Ext.newF s hp).f⟩) fun _ z => z.elim
  · cases e
    obtain ⟨a, rfl, ea⟩ := ra.scr_v
    exact .inl ⟨a, _, rfl, s.seq ea, fun p hp => q F _ _ (fun b => b = p) (Ext.new s hp) (RO.new upd_same (s.free hp) (cut_rp (ints_rp _) l h)) fun a e => by cases e; exact ⟨hp, _, upd_same⟩⟩
theorem sem_slc {ta : TE} {tl th : TO} {ea : Env → R (D × Env)} {el eh : Env → R (Option Int × Env)} {n : Nat} {b : Option Nat} {T3 : List Nat} (sa : SemP C E ta ea n T1 b) (sl : SemO C E tl el T2) (sh : SemO C E th eh T3) (hn : n ≤ 1) (hb : ∀ i, b = some i → i ∉ T2 ++ T3) :
    SemE C E (tSl (rSl C.K) ta tl th) (fun env => (ea env).bind fun p => (el p.2).bind fun q => (eh q.2).bind fun r => (ofOpt (slcF p.1 q.1 r.1)).bind fun d => .ok (d, r.2)) 1 (T1 ++ (T2 ++ T3)) := fun F H σ env S ri Q post => by
  refine sa F H σ env S ri _ (post.bind.to (fun _ h => List.mem_append_left _ h) fun p _ hp F1 H1 S1 va Za st1 ri1 ra za => ?_)
  refine sl F1 H1 σ p.2 S1 ri1 _ (hp.bind.step st1 (fun _ h => List.mem_append_left _ h) (fun _ h => List.mem_append_right _ (List.mem_append_left _ h)) fun q _ hq F2 H2 S2 st2 ri2 => ?_)
  have st12 := st1.trans st2
  refine sh F2 H2 σ q.2 S2 ri2 _ (hq.bind.step st12 (fun i h => by simp at h ⊢; rcases h with h | h; exact .inl h; exact .inr (.inl h)) (fun _ h => List.mem_append_right _ (List.mem_append_right _ h)) fun r _ hr F3 H3 S3 st3 ri3 => ?_)
  obtain ⟨d, hd, hq⟩ := hr.opt
  have st23 := st2.trans st3
  have ra3 : RO C.K F3 H3 n p.1 va Za := st23.ro ra fun a z i hi w => hb i ((za a z).2 i w) hi
  refine vsl ri3.sub ra3 hn hd Q fun F4 H4 v Z ext rz fz => ?_
  have st13 := st1.trans st23
  exact hq F4 H4 S3 v Z ((st13.trans (T2 := []) ext.stp).weak fun i hi => by simpa using hi) (ri3.ext ext) rz (st13.frs ri3 fz)

/-! ### calls -/
def SemA (C : CC) (E : XK) (t : TA) (ev : Env → R (List (Sum D Nat) × Env)) (T : List Nat) : Prop :=
  ∀ F H σ env S, RI C.K C.g F H σ env S → ∀ Q : List V → Hp → Prop,
    Post C E T F H S (ev env) (fun p => ∀ F' H' S' vs, Stp T F H S F' H' S' → RI C.K C.g F' H' σ p.2 S' → p.1.length = vs.length →
      (∀ (i : Nat) (d : D) (v : V), p.1[i]? = some (Sum.inl d) → vs[i]? = some v → Rp C.K F' d v) → (∀ (i x : Nat) (v : V), p.1[i]? = some (Sum.inr x) → vs[i]? = some v → σ[x]? = some (some v)) → Q vs H') → t σ H Q
theorem sem_anil : SemA C E tNil (fun env => .ok ([], env)) T := fun F H σ env S ri Q post => post F H S [] Stp.refl ri rfl (fun i d v h _ => by simp at h) fun i x v h _ => by simp at h
theorem sem_acons {t : TE} {ts : TA} {ea : Env → R (D × Env)} {es : Env → R (List (Sum D Nat) × Env)} (sa : SemE C E t ea 0 T1) (sb : SemA C E ts es T2) :
    SemA C E (tCons t ts) (fun env => (ea env).bind fun p => (es p.2).bind fun q => .ok (.inl p.1 :: q.1, q.2)) (T1 ++ T2) := fun F H σ env S ri Q post => by
  refine sa F H σ env S ri _ (post.bind.to (fun _ h => List.mem_append_left _ h) fun p _ hp F1 H1 S1 va Za st1 ri1 ra za => ?_)
  refine sb F1 H1 σ p.2 S1 ri1 _ (hp.bind.step st1 (fun _ h => List.mem_append_left _ h) (fun _ h => List.mem_append_right _ h) fun q _ hq F2 H2 S2 vs st2 ri2 hl rz ro => ?_)
  refine hq F2 H2 S2 (va :: vs) (st1.trans st2) ri2 (by simp [hl]) (fun i d v h1 h2 => ?_) fun i x v h1 h2 => ?_
  · cases i with
    | zero => simp at h1 h2; subst h1 h2; exact Rp.mono st2.mono ra
    | succ i => exact rz i d v (by simpa using h1) (by simpa using h2)
  · cases i with
    | zero => simp at h1
    | succ i => exact ro i x v (by simpa using h1) (by simpa using h2)
theorem sem_aio {x : Nat} {ts : TA} {es : Env → R (List (Sum D Nat) × Env)} (sb : SemA C E ts es T2) :
    SemA C E (tCons (tVar x) ts) (fun env => (getv x env).bind fun _ => (es env).bind fun q => .ok (.inr x :: q.1, q.2)) T2 := fun F H σ env S ri Q post => by
  obtain ⟨d, hd, post⟩ := getv_ok post
  obtain ⟨v, e, r⟩ := ri.cell x d hd
  refine ⟨v, e, sb F H σ env S ri _ (post.bind.to (fun _ h => h) fun q _ hq F2 H2 S2 vs st2 ri2 hl rz ro => ?_)⟩
  refine hq F2 H2 S2 (v :: vs) st2 ri2 (by simp [hl]) (fun i d v h1 h2 => ?_) fun i x v h1 h2 => ?_
  · cases i with
    | zero => simp at h1
    | succ i => exact rz i d v (by simpa using h1) (by simpa using h2)
  · cases i with
    | zero => simp at h1 h2; subst h1 h2; exact e
    | succ i => exact ro i x v (by simpa using h1) (by simpa using h2)
/-- the places that a function changes -/
def ioIx (l : List Bool) : List Nat := (List.range l.length).filter fun j => l.getD j false
theorem mem_ioIx {l : List Bool} {j : Nat} : j ∈ ioIx l ↔ l[j]? = some true := by
  unfold ioIx
  rw [List.mem_filter, List.mem_range]
  constructor
  · rintro ⟨h1, h2⟩
    rw [List.getD_eq_getElem?_getD, List.getElem?_eq_getElem h1] at h2
    rw [List.getElem?_eq_getElem h1]
    simp at h2; rw [h2]
  · intro h
    obtain ⟨h1, h2⟩ := List.getElem?_eq_some_iff.mp h
    exact ⟨h1, by rw [List.getD_eq_getElem?_getD, h]; rfl⟩
def Fd.g (f : Fd) (i : Nat) : Nat := f.G.getD i 0
/-- a function's promise: it does what cal does -/
def spF (C : CC) (fd : Fd) (f : Nat) : Sp := fun vs H Q E => vs.length = fd.np ∧ ∃ F S ds, ds.length = fd.np ∧ RI C.K fd.g F H (vs.map some) (ds.map some) S ∧
  Post C E (ioIx fd.io) F H S (C.cal f ds) fun p => ∀ F' H' S' v Z, Stp (ioIx fd.io) F H S F' H' S' → RI C.K fd.g F' H' (vs.map some) p.2 S' → RO C.K F' H' fd.rt p.1 v Z → Frs (ioIx fd.io) H S H' S' Z → Q v H'
theorem resolve_get : ∀ {as : List (Sum D Nat)} {env : Env} {ds : List D}, resolve as env = .ok ds → ds.length = as.length ∧ ∀ i : Nat, (∀ d, as[i]? = some (Sum.inl d) → ds[i]? = some d) ∧ ∀ x, as[i]? = some (Sum.inr x) → ∃ d, gt env x = some d ∧ ds[i]? = some d
  | [], env, ds, h => by cases h; exact ⟨rfl, fun i => ⟨fun d h => by simp at h, fun x h => by simp at h⟩⟩
  | .inl a :: as, env, ds, h => by
    unfold resolve at h
    cases e : resolve as env with
    | ok r =>
      rw [e] at h; cases h
      obtain ⟨h1, h2⟩ := resolve_get e
      refine ⟨by simp [h1], fun i => ?_⟩
      cases i with
      | zero => exact ⟨fun d h => by simpa using h, fun x h => by simp at h⟩
      | succ i => exact ⟨fun d h => (h2 i).1 d (by simpa using h), fun x h => (h2 i).2 x (by simpa using h)⟩
    | exc c d => rw [e] at h; cases h
    | bad => rw [e] at h; cases h
  | .inr a :: as, env, ds, h => by
    unfold resolve at h
    cases g : gt env a with
    | none => unfold getv at h; rw [g] at h; cases h
    | some d0 =>
      rw [gt_some g] at h
      simp only [R.bind_ok] at h
      cases e : resolve as env with
      | ok r =>
        rw [e] at h; cases h
        obtain ⟨h1, h2⟩ := resolve_get e
        refine ⟨by simp [h1], fun i => ?_⟩
        cases i with
        | zero => exact ⟨fun d h => by simp at h, fun x h => by simp at h; subst h; exact ⟨d0, g, rfl⟩⟩
        | succ i => exact ⟨fun d h => (h2 i).1 d (by simpa using h), fun x h => (h2 i).2 x (by simpa using h)⟩
      | exc c d => rw [e] at h; cases h
      | bad => rw [e] at h; cases h
theorem resolve_exc {as : List (Sum D Nat)} {env : Env} {c : Nat} {d : D} : resolve as env ≠ .exc c d := by
  induction as with
  | nil => intro h; cases h
  | cons a as ih =>
    cases a with
    | inl a =>
      intro h
      unfold resolve at h
      cases e : resolve as env <;> rw [e] at h <;> first | (cases h; done) | skip
      exact ih (by rw [e]; cases h; rfl)
    | inr a =>
      intro h
      unfold resolve at h
      cases g : getv a env with
      | ok v =>
        rw [g] at h
        simp only [R.bind_ok] at h
        cases e : resolve as env <;> rw [e] at h <;> first | (cases h; done) | skip
        exact ih (by rw [e]; cases h; rfl)
      | exc c' d' => unfold getv at g; cases q : gt env a <;> rw [q] at g <;> cases g
      | bad => rw [g] at h; cases h
/-- what putA leaves: a slot at a changed place has what came back, the others stay -/
theorem putA_get : ∀ {as : List (Sum D Nat)} {q : List (Option D)} {env env' : Env}, putA as q env = .ok env' → (∀ (i j : Nat) (x : Nat), as[i]? = some (Sum.inr x) → as[j]? = some (Sum.inr x) → i = j) →
    ∀ (x : Nat) (d : D), gt env' x = some d → (∃ i : Nat, as[i]? = some (Sum.inr x) ∧ gt q i = some d) ∨ ((∀ i : Nat, as[i]? ≠ some (Sum.inr x)) ∧ gt env x = some d)
  | [], [], env, env', h, _, x, d, g => by cases h; exact .inr ⟨fun i => by simp, g⟩
  | [], _ :: _, _, _, h, _, _, _, _ => by cases h
  | .inl a :: as, [], env, env', h, nd, x, d, g => by
    rcases putA_get (as := as) (q := []) h (fun i j x h1 h2 => by have := nd (i + 1) (j + 1) x (by simpa using h1) (by simpa using h2); omega) x d g with ⟨i, h1, h2⟩ | ⟨h1, h2⟩
    · exact absurd h2 (by unfold gt; simp)
    · exact .inr ⟨fun i e => by cases i with
        | zero => simp at e
        | succ i => exact h1 i (by simpa using e), h2⟩
  | .inl a :: as, none :: q, env, env', h, nd, x, d, g => by
    rcases putA_get (as := as) (q := q) h (fun i j x h1 h2 => by have := nd (i + 1) (j + 1) x (by simpa using h1) (by simpa using h2); omega) x d g with ⟨i, h1, h2⟩ | ⟨h1, h2⟩
    · exact .inl ⟨i + 1, by simpa using h1, by unfold gt at h2 ⊢; simpa using h2⟩
    · exact .inr ⟨fun i e => by cases i with
        | zero => simp at e
        | succ i => exact h1 i (by simpa using e), h2⟩
  | .inl a :: as, some _ :: q, env, env', h, _, _, _, _ => by cases h
  | .inr a :: as, [], env, env', h, _, _, _, _ => by cases h
  | .inr a :: as, none :: q, env, env', h, _, _, _, _ => by cases h
  | .inr a :: as, some y :: q, env, env', h, nd, x, d, g => by
    rcases putA_get (as := as) (q := q) h (fun i j x h1 h2 => by have := nd (i + 1) (j + 1) x (by simpa using h1) (by simpa using h2); omega) x d g with ⟨i, h1, h2⟩ | ⟨h1, h2⟩
    · exact .inl ⟨i + 1, by simpa using h1, by unfold gt at h2 ⊢; simpa using h2⟩
    · by_cases e : a = x
      · subst e
        have := gt_set_self h2
        cases this
        exact .inl ⟨0, rfl, rfl⟩
      · rw [gt_set_ne e] at h2
        exact .inr ⟨fun i e' => by cases i with
          | zero => simp at e'; exact e e'
          | succ i => exact h1 i (by simpa using e'), h2⟩
theorem putA_exc : ∀ {as : List (Sum D Nat)} {q : List (Option D)} {env : Env} {c : Nat} {d : D}, putA as q env ≠ .exc c d
  | [], [], _, _, _ => nofun
  | [], _ :: _, _, _, _ => nofun
  | .inl a :: as, [], env, c, d => putA_exc (as := as) (q := [])
  | .inl a :: as, none :: q, env, c, d => putA_exc (as := as) (q := q)
  | .inl a :: as, some _ :: q, env, c, d => nofun
  | .inr a :: as, [], env, c, d => nofun
  | .inr a :: as, none :: q, env, c, d => nofun
  | .inr a :: as, some y :: q, env, c, d => putA_exc (as := as) (q := q)
theorem putA_len : ∀ {as : List (Sum D Nat)} {q : List (Option D)} {env env' : Env}, putA as q env = .ok env' → env'.length = env.length
  | [], [], _, _, h => by cases h; rfl
  | [], _ :: _, _, _, h => by cases h
  | .inl a :: as, [], env, _, h => putA_len (as := as) (q := []) h
  | .inl a :: as, none :: q, env, _, h => putA_len (as := as) (q := q) h
  | .inl a :: as, some _ :: q, env, _, h => by cases h
  | .inr a :: as, [], env, _, h => by cases h
  | .inr a :: as, none :: q, env, _, h => by cases h
  | .inr a :: as, some y :: q, env, _, h => by rw [putA_len (as := as) (q := q) h, List.length_set]
theorem Post.bindo {α β : Type} {x : R α} {f : α → R β} {k : β → Prop} (h : Post C E T F H S (x.bind f) k) (n : ∀ c d, x ≠ .exc c d) : ∃ a, x = .ok a ∧ Post C E T F H S (f a) k := by
  cases x with
  | ok a => exact ⟨a, rfl, h⟩
  | exc c d => exact absurd rfl (n c d)
  | bad => exact h.elim
/-- a call of one's own function: io the slots that it changes -/
theorem sem_call {ts : TA} {es : Env → R (List (Sum D Nat) × Env)} {fd : Fd} {f : Nat} {io : List Nat} (sa : SemA C E ts es T)
    (hlen : ∀ env p, es env = .ok p → p.1.length = fd.np)
    (hnd : ∀ env p, es env = .ok p → ∀ (i j : Nat) (x : Nat), p.1[i]? = some (Sum.inr x) → p.1[j]? = some (Sum.inr x) → i = j)
    (hio : ∀ env p, es env = .ok p → ∀ (i x : Nat), p.1[i]? = some (Sum.inr x) → x ∈ io ∧ fd.g i = C.g x ∧ i ∈ ioIx fd.io)
    (hv : ∀ env p, es env = .ok p → ∀ (i : Nat) (d : D), p.1[i]? = some (Sum.inl d) → fd.g i = 0 ∧ i ∉ ioIx fd.io)
    (hx : ∀ i, i ∈ ioIx fd.io → i < fd.np) :
    SemE C E (tCall (spF C fd f) [] E ts) (fun env => (es env).bind fun p => (resolve p.1 p.2).bind fun ds => (C.cal f ds).bind fun q => (putA p.1 q.2 p.2).bind fun env' => .ok (q.1, env')) fd.rt (T ++ io) := fun F H σ env S ri Q post => by
  refine sa F H σ env S ri _ (post.bind.to (fun _ h => List.mem_append_left _ h) fun p ep hp F1 H1 S1 vs st1 ri1 hl rv ro => ?_)
  obtain ⟨ds, hds, hq⟩ := hp.bindo fun c d => resolve_exc
  obtain ⟨l1, gd⟩ := resolve_get hds
  have np := hlen env p ep
  have nd := hnd env p ep
  have hio := hio env p ep
  have hv := hv env p ep
  classical
  -- the callee's frame
  let Sc : Nat → AS := fun j a => ∃ x, p.1[j]? = some (Sum.inr x) ∧ S1 x a
  have sc_inr : ∀ (j x : Nat), p.1[j]? = some (Sum.inr x) → Sc j = S1 x := fun j x h => by
    funext a
    refine propext ⟨fun ⟨y, e, w⟩ => ?_, fun w => ⟨x, h, w⟩⟩
    rw [h] at e; cases e; exact w
  have sc_some : ∀ (j : Nat) (a : Addr), Sc j a → ∃ x, p.1[j]? = some (Sum.inr x) ∧ S1 x a := fun j a h => h
  have ric : RI C.K fd.g F1 H1 (vs.map some) (ds.map some) Sc := by
    refine ⟨ri1.sub, fun j d g => ?_, fun i j a h1 h2 => ?_, fun j a h => ?_, by rw [List.length_map, List.length_map]; omega⟩
    · have g' : ds[j]? = some d := by
        unfold gt at g
        rw [List.getElem?_map] at g
        cases e : ds[j]? with
        | none => rw [e] at g; simp at g
        | some d' => rw [e] at g; simpa using g
      obtain ⟨hj, _⟩ := List.getElem?_eq_some_iff.mp g'
      have hj1 : j < p.1.length := by omega
      have hj2 : j < vs.length := by omega
      have ev : vs[j]? = some vs[j] := List.getElem?_eq_getElem hj2
      refine ⟨vs[j], by rw [List.getElem?_map, ev]; rfl, ?_⟩
      have ea : p.1[j]? = some p.1[j] := List.getElem?_eq_getElem hj1
      cases c : p.1[j] with
      | inl d' =>
        rw [c] at ea
        have := (gd j).1 d' ea
        rw [g'] at this
        cases this
        rw [(hv j d ea).1]
        exact rv j d _ ea ev
      | inr x =>
        rw [c] at ea
        obtain ⟨d', h1, h2⟩ := (gd j).2 x ea
        rw [g'] at h2
        cases h2
        obtain ⟨v', e1, r⟩ := ri1.cell x d h1
        have e2 := ro j x _ ea ev
        rw [e1] at e2
        cases e2
        rw [(hio j x ea).2.1, sc_inr j x ea]
        exact r
    · obtain ⟨x, e1, s1⟩ := sc_some i a h1
      obtain ⟨y, e2, s2⟩ := sc_some j a h2
      cases ri1.dj x y a s1 s2
      exact nd i j x e1 e2
    · obtain ⟨x, e1, s1⟩ := sc_some j a h
      exact ri1.lv x a s1
  refine ⟨by rw [List.append_nil]; omega, F1, Sc, ds, by omega, by rw [List.append_nil]; exact ric, ?_⟩
  rw [List.append_nil]
  have hq0 := hq.bind
  -- an exception of the callee, and its answer
  have back : ∀ {F' H' Sd}, Stp (ioIx fd.io) F1 H1 Sc F' H' Sd → Stp io F1 H1 S1 F' H' (fun x => if h : ∃ j : Nat, p.1[j]? = some (Sum.inr x) then Sd (Classical.choose h) else S1 x) := fun {F' H' Sd} st => by
    refine ⟨st.mono, st.there, fun a o e n => st.keep a o e fun j hj w => ?_, fun a o e f n => st.keepF a o e f fun j hj w => ?_, fun x a w => ?_, fun x hx' => ?_⟩
    · obtain ⟨x, e1, s1⟩ := sc_some j a w
      exact n x (hio j x e1).1 s1
    · obtain ⟨x, e1, s1⟩ := sc_some j a w
      exact n x (hio j x e1).1 s1
    · by_cases h : ∃ j : Nat, p.1[j]? = some (Sum.inr x)
      · simp only [dif_pos h] at w
        rcases st.fp _ a w with w | ⟨j, _, w⟩ | w
        · rw [sc_inr _ x (Classical.choose_spec h)] at w
          exact .inl w
        · obtain ⟨y, e1, s1⟩ := sc_some j a w
          exact .inr (.inl ⟨y, (hio j y e1).1, s1⟩)
        · exact .inr (.inr w)
      · simp only [dif_neg h] at w
        exact .inl w
    · have h : ¬ ∃ j : Nat, p.1[j]? = some (Sum.inr x) := fun ⟨j, e⟩ => hx' (hio j x e).1
      simp only [dif_neg h]
  cases hcal : C.cal f ds with
  | bad => rw [hcal] at hq0; exact hq0.elim
  | exc c d =>
    rw [hcal] at hq0
    exact fun F' H' S' dx v st => hq0 F' H' _ dx v ((st1.trans (back st)))
  | ok q =>
    rw [hcal] at hq0
    obtain ⟨env', he, hk⟩ := Post.bindo (x := putA p.1 q.2 p.2) (f := fun env' => R.ok (q.1, env')) hq0 fun c d => putA_exc
    refine fun F' H' S' v Z st ric' rz fz => ?_
    have stb := back st
    refine hk F' H' _ v Z (st1.trans stb) ⟨ric'.sub, fun x d g => ?_, fun x y a w1 w2 => ?_, fun x a w => ?_, by rw [putA_len he]; exact ri1.len⟩ rz ?_
    · rcases putA_get he nd x d g with ⟨j, e1, e2⟩ | ⟨n1, e2⟩
      · obtain ⟨v', e3, r⟩ := ric'.cell j d e2
        have hj : j < vs.length := by
          obtain ⟨h, _⟩ := List.getElem?_eq_some_iff.mp e1
          omega
        rw [List.getElem?_map, List.getElem?_eq_getElem hj] at e3
        simp at e3
        subst e3
        have ev : vs[j]? = some vs[j] := List.getElem?_eq_getElem hj
        refine ⟨vs[j], ro j x _ e1 ev, ?_⟩
        rw [← (hio j x e1).2.1]
        have h : ∃ j : Nat, p.1[j]? = some (Sum.inr x) := ⟨j, e1⟩
        simp only [dif_pos h]
        rw [nd _ j x (Classical.choose_spec h) e1]
        exact r
      · obtain ⟨v', e3, r⟩ := ri1.cell x d e2
        refine ⟨v', e3, ?_⟩
        have h : ¬ ∃ j : Nat, p.1[j]? = some (Sum.inr x) := fun ⟨j, e⟩ => n1 j e
        simp only [dif_neg h]
        refine st.ro r fun a z j hj w => ?_
        obtain ⟨y, e1, s1⟩ := sc_some j a w
        cases ri1.dj x y a z s1
        exact n1 j e1
    · -- apart
      by_cases h1 : ∃ j : Nat, p.1[j]? = some (Sum.inr x)
      · simp only [dif_pos h1] at w1
        by_cases h2 : ∃ j : Nat, p.1[j]? = some (Sum.inr y)
        · simp only [dif_pos h2] at w2
          have e := ric'.dj _ _ a w1 w2
          have e1 := Classical.choose_spec h1
          have e2 := Classical.choose_spec h2
          rw [e, e2] at e1
          simpa using e1.symm
        · simp only [dif_neg h2] at w2
          rcases st.fp _ a w1 with w | ⟨j, _, w⟩ | w
          · rw [sc_inr _ x (Classical.choose_spec h1)] at w
            exact ri1.dj x y a w w2
          · obtain ⟨z, e1, s1⟩ := sc_some j a w
            cases ri1.dj y z a w2 s1
            exact absurd ⟨j, e1⟩ h2
          · obtain ⟨o, e⟩ := ri1.lv y a w2
            rw [w] at e; cases e
      · simp only [dif_neg h1] at w1
        by_cases h2 : ∃ j : Nat, p.1[j]? = some (Sum.inr y)
        · simp only [dif_pos h2] at w2
          rcases st.fp _ a w2 with w | ⟨j, _, w⟩ | w
          · rw [sc_inr _ y (Classical.choose_spec h2)] at w
            exact ri1.dj x y a w1 w
          · obtain ⟨z, e1, s1⟩ := sc_some j a w
            cases ri1.dj x z a w1 s1
            exact absurd ⟨j, e1⟩ h1
          · obtain ⟨o, e⟩ := ri1.lv x a w1
            rw [w] at e; cases e
        · simp only [dif_neg h2] at w2
          exact ri1.dj x y a w1 w2
    · by_cases h1 : ∃ j : Nat, p.1[j]? = some (Sum.inr x)
      · simp only [dif_pos h1] at w
        exact ric'.lv _ a w
      · simp only [dif_neg h1] at w
        obtain ⟨o, e⟩ := ri1.lv x a w
        exact st.there a o e
    · refine Frs.back st1 (T2 := io) fun a z => ?_
      obtain ⟨l, n1, n2⟩ := fz a z
      refine ⟨l, ?_, fun x w => ?_⟩
      · rcases n1 with n1 | ⟨j, hj, w⟩
        · exact .inl n1
        · obtain ⟨x, e1, s1⟩ := sc_some j a w
          exact .inr ⟨x, (hio j x e1).1, s1⟩
      · by_cases h1 : ∃ j : Nat, p.1[j]? = some (Sum.inr x)
        · simp only [dif_pos h1] at w
          exact n2 _ w
        · simp only [dif_neg h1] at w
          rcases n1 with n1 | ⟨j, hj, w'⟩
          · exact ri1.new n1 w
          · obtain ⟨y, e1, s1⟩ := sc_some j a w'
            cases ri1.dj x y a w s1
            exact h1 ⟨j, e1⟩
end
end DL
/-! DL8: targets, walks, comprehensions. -/
namespace DL
open PySem PySem.Spec PyProof.Rows L2

abbrev E0 : XK := fun _ _ _ => False

section
variable {C : CC} {E : XK} {T T1 T2 T3 : List Nat} {F H F1 H1 F2 H2 : Hp} {S S1 S2 : Nat → AS} {K : PySem.W.Frag} {G : Nat → Nat}
/-! ### slots stored -/
theorem RI.set0 {σ : L2.St} {env : Env} {i : Nat} {d : D} {v : V} (r : RI K G F H σ env S) (hi : G i = 0) (rv : Rp K F d v) : RI K G F H (σ.set i (some v)) (env.set i (some d)) S := by
  refine ⟨r.sub, fun j d' g => ?_, r.dj, r.lv, by rw [List.length_set, List.length_set]; exact r.len⟩
  by_cases h : i = j
  · subst h
    have hl : i < env.length := by
      by_cases c : i < env.length
      · exact c
      · rw [gt_set, if_pos rfl, if_neg c] at g; cases g
    have := gt_set_self g
    cases this
    refine ⟨v, List.getElem?_set_self (Nat.lt_of_lt_of_le hl r.len), ?_⟩
    rw [hi]; exact rv
  · rw [gt_set_ne h] at g
    obtain ⟨w, e, q⟩ := r.cell j d' g
    exact ⟨w, by rw [List.getElem?_set_ne h]; exact e, q⟩
/-- a slot takes a value that it owns -/
theorem RI.setN {σ : L2.St} {env : Env} {i : Nat} {d : D} {v : V} {Z : AS} (r : RI K G F H σ env S) (rv : RO K F H (G i) d v Z) (hz : ∀ a, Z a → (∃ o, H a = some o) ∧ ∀ j, ¬ S j a) : RI K G F H (σ.set i (some v)) (env.set i (some d)) (updS S i Z) := by
  refine ⟨r.sub, fun j d' g => ?_, fun j l a p q => ?_, fun j a p => ?_, by rw [List.length_set, List.length_set]; exact r.len⟩
  · by_cases h : i = j
    · subst h
      have hl : i < env.length := by
        by_cases c : i < env.length
        · exact c
        · rw [gt_set, if_pos rfl, if_neg c] at g; cases g
      have := gt_set_self g
      cases this
      exact ⟨v, List.getElem?_set_self (Nat.lt_of_lt_of_le hl r.len), by rw [updS_same]; exact rv⟩
    · rw [gt_set_ne h] at g
      obtain ⟨w, e, q⟩ := r.cell j d' g
      exact ⟨w, by rw [List.getElem?_set_ne h]; exact e, by rw [updS_ne (Ne.symm h)]; exact q⟩
  · by_cases hj : j = i
    · subst hj
      rw [updS_same] at p
      by_cases hl : l = j
      · exact hl.symm
      · rw [updS_ne hl] at q; exact ((hz a p).2 l q).elim
    · rw [updS_ne hj] at p
      by_cases hl : l = i
      · subst hl; rw [updS_same] at q; exact ((hz a q).2 j p).elim
      · rw [updS_ne hl] at q; exact r.dj j l a p q
  · by_cases hj : j = i
    · subst hj; rw [updS_same] at p; exact (hz a p).1
    · rw [updS_ne hj] at p; exact r.lv j a p
theorem Stp.setN {i : Nat} {Z : AS} (st : Stp T F H S F1 H1 S1) (hi : i ∈ T) (hz : Frs T H S H1 S1 Z) : Stp T F H S F1 H1 (updS S1 i Z) :=
  ⟨st.mono, st.there, st.keep, st.keepF, fun j a q => by
    by_cases hj : j = i
    · subst hj
      rw [updS_same] at q
      rcases (hz a q).2.1 with h | h
      · exact .inr (.inr h)
      · exact .inr (.inl h)
    · rw [updS_ne hj] at q; exact st.fp j a q, fun j hj => by
    have hne : j ≠ i := fun e => hj (by rw [e]; exact hi)
    rw [updS_ne hne]; exact st.same j hj⟩

/-! ### targets -/
def SemG (C : CC) (t : TG) (bd : D → Env → R Env) (own : List Nat) : Prop :=
  ∀ F H σ env S d v env', RI C.K C.g F H σ env S → Rp C.K F d v → bd d env = .ok env' → ∀ Q : L2.St → Hp → Prop, (∀ σ', RI C.K C.g F H σ' env' S → σ'.length = σ.length → (∀ i, i ∉ own → σ'[i]? = σ[i]?) → Q σ' H) → t v σ H Q
theorem sem_gone {i : Nat} (hi : C.g i = 0) : SemG C (gName i) (bindT (.one i)) [i] := fun F H σ env S d v env' ri rv e Q q => by
  cases e
  exact q _ (ri.set0 hi rv) (List.length_set) fun j hj => List.getElem?_set_ne fun e => hj (by simp [e])
def SemGs (C : CC) (t : TGs) (is : List Nat) : Prop :=
  ∀ F H σ env S ds vs env', RI C.K C.g F H σ env S → RpL C.K F ds vs → bindL is ds env = .ok env' → ∀ Q : L2.St → Hp → Prop, (∀ σ', RI C.K C.g F H σ' env' S → σ'.length = σ.length → (∀ i, i ∉ is → σ'[i]? = σ[i]?) → Q σ' H) → t vs σ H Q
theorem sem_gnil : SemGs C gNil [] := fun F H σ env S ds vs env' ri rv e Q q => by
  cases ds with
  | nil => cases e; exact ⟨rv, q σ ri rfl fun _ _ => rfl⟩
  | cons _ _ => cases e
theorem sem_gcons {i : Nat} {is : List Nat} {t : TGs} (hi : C.g i = 0) (h : SemGs C t is) : SemGs C (gCons (gName i) t) (i :: is) := fun F H σ env S ds vs env' ri rv e Q q => by
  cases ds with
  | nil => cases e
  | cons d ds =>
    obtain ⟨v, r, rfl, r1, r2⟩ := rv
    refine ⟨v, r, rfl, ?_⟩
    exact h F H _ _ S ds r env' (ri.set0 hi r1) r2 e Q fun σ' ri' hl hs => q σ' ri' (hl.trans List.length_set) fun j hj => by
      rw [hs j fun w => hj (List.mem_cons_of_mem _ w), List.getElem?_set_ne fun e => hj (by simp [e])]
theorem bindL_len : ∀ {is : List Nat} {ds : List D} {env env' : Env}, bindL is ds env = .ok env' → ds.length = is.length
  | [], [], _, _, _ => rfl
  | [], _ :: _, _, _, h => by cases h
  | _ :: _, [], _, _, h => by cases h
  | _ :: is, _ :: ds, env, env', h => by simp [bindL_len (is := is) (ds := ds) h]
theorem sem_gtup {is : List Nat} {t : TGs} {n : Nat} (h : SemGs C t is) (hn : n = is.length) : SemG C (gTup C.K n t) (bindT (.tup is)) is := fun F H σ env S d v env' ri rv e Q q => by
  cases d <;> first | (cases e; done) | skip
  rename_i ds
  obtain ⟨a, xs, rfl, ea, r⟩ := rv
  have e : bindL is ds env = .ok env' := e
  exact ⟨a, xs, rfl, same_seqT ri.sub ea, by rw [hn, ← bindL_len e, r.length], h F H σ env S ds xs env' ri r e Q q⟩

/-! ### what is walked -/
/-- as long as the objects of Z stand as in H1 -/
structure Kp (F1 H1 : Hp) (Z : AS) (F H : Hp) : Prop where
  f : Same F1 F
  sub : Same F H
  z : ∀ a o, Z a → H1 a = some o → H a = some o
structure Wkd (K : PySem.W.Frag) (J : It) (ds : List D) (F1 H1 : Hp) (Z : AS) : Prop where
  goes : ∀ i F H, i < ds.length → Kp F1 H1 Z F H → J.go i H
  stops : ∀ F H, Kp F1 H1 Z F H → J.stop ds.length H
  yld : ∀ i F H x H' d, ds[i]? = some d → Kp F1 H1 Z F H → J.yld i H x H' → ∃ F', Ext F H F' H' ∧ Rp K F' d x
def SemW (C : CC) (E : XK) (w : TI) (ev : Env → R (List D × Env)) (T : List Nat) (b : Option Nat) : Prop :=
  ∀ F H σ env S, RI C.K C.g F H σ env S → ∀ R : It → Hp → Prop,
    Post C E T F H S (ev env) (fun p => ∀ F' H' S' J Z, Stp T F H S F' H' S' → RI C.K C.g F' H' σ p.2 S' → Wkd C.K J p.1 F' H' Z → (∀ a, Z a → (∃ o, H' a = some o) ∧ ∀ i, S' i a → b = some i) → R J H') → w σ H R
theorem Stp.kp {σ : L2.St} {env : Env} {Z : AS} {b : Option Nat} (st : Stp T F1 H1 S1 F H S) (ri : RI K G F H σ env S) (hz : ∀ a, Z a → (∃ o, H1 a = some o) ∧ ∀ i, S1 i a → b = some i) (hb : ∀ i, b = some i → i ∉ T) : Kp F1 H1 Z F H :=
  ⟨st.mono, ri.sub, fun a o z e => st.keep a o e fun i hi w => hb i ((hz a z).2 i w) hi⟩
theorem wkd_list {ds : List D} {v : V} {n : Nat} {Z : AS} (r : RO K F1 H1 n (.lst ds) v Z) (hn : n ≤ 1) (s : Same F1 H1) : ∃ a xs, v = .ref a ∧ SqL K H1 a xs ∧ Wkd K (Itl K a) ds F1 H1 Z := by
  have key : ∀ a xs, v = .ref a → H1 a = some (.lst xs) → RpL K F1 ds xs → (∀ F H, Kp F1 H1 Z F H → H a = some (.lst xs)) → ∃ a xs, v = .ref a ∧ SqL K H1 a xs ∧ Wkd K (Itl K a) ds F1 H1 Z := fun a xs ev ea rr kk => by
    have hl := rr.length
    refine ⟨a, xs, ev, .inl (.inl ea), fun i F H hi k => ?_, fun F H k => ?_, fun i F H x H' d hd k y => ?_⟩
    · exact ⟨xs, xs[i]'(by omega), .inl (.inl (kk F H k)), List.getElem?_eq_getElem (by omega)⟩
    · exact ⟨xs, .inl (.inl (kk F H k)), by omega⟩
    · obtain ⟨rfl, y⟩ := y
      exact ⟨F, Ext.refl k.sub, Rp.mono k.f (rr.get hd (y xs (.inl (.inl (kk F H' k)))))⟩
  match n, r, hn with
  | 0, r, _ =>
    obtain ⟨a, xs, ev, ea, rr⟩ := r
    exact key a xs ev (s _ _ ea) rr fun F H k => k.sub _ _ (k.f _ _ ea)
  | 1, r, _ =>
    obtain ⟨a, xs, T, ev, ea, _, sa, hl, _, _, rr⟩ := r
    exact key a xs ev ea (RpL.of hl rr) fun F H k => k.z _ _ sa ea
theorem wkd_tup {ds : List D} {v : V} (r : Rp K F1 (.tup ds) v) (s : Same F1 H1) {Z : AS} : ∃ a xs, v = .ref a ∧ SqT K H1 a xs ∧ Wkd K (Itt K a) ds F1 H1 Z := by
  obtain ⟨a, xs, ev, ea, rr⟩ := r
  have hl := rr.length
  have kk : ∀ F H, Kp F1 H1 Z F H → SqT K H a xs := fun F H k => same_seqT k.sub (same_seqT k.f ea)
  refine ⟨a, xs, ev, same_seqT s ea, fun i F H hi k => ?_, fun F H k => ?_, fun i F H x H' d hd k y => ?_⟩
  · exact ⟨xs, xs[i]'(by omega), kk F H k, List.getElem?_eq_getElem (by omega)⟩
  · exact ⟨xs, kk F H k, by omega⟩
  · obtain ⟨rfl, y⟩ := y
    exact ⟨F, Ext.refl k.sub, Rp.mono k.f (rr.get hd (y xs (kk F H' k)))⟩
theorem wkd_scr {ns : List Int} {v : V} (r : Rp K F1 (.scr ns) v) (s : Same F1 H1) {Z : AS} : ∃ a xs, v = .ref a ∧ SqL K H1 a xs ∧ Wkd K (Itl K a) (ns.map D.int) F1 H1 Z := by
  obtain ⟨a, ev, ea⟩ := r
  have kk : ∀ F H, Kp F1 H1 Z F H → SqL K H a (ns.map V.int) := fun F H k => k.sub.seq (k.f.seq ea)
  refine ⟨a, _, ev, s.seq ea, fun i F H hi k => ?_, fun F H k => ?_, fun i F H x H' d hd k y => ?_⟩
  · have hi' : i < (ns.map V.int).length := by simpa using hi
    exact ⟨_, _, kk F H k, List.getElem?_eq_getElem hi'⟩
  · exact ⟨ns.map V.int, kk F H k, Nat.le_of_eq (by rw [List.length_map, List.length_map])⟩
  · obtain ⟨rfl, y⟩ := y
    exact ⟨F, Ext.refl k.sub, (ints_rp ns).get hd (y _ (kk F H' k))⟩
theorem wkd_str {z : Str} {Z : AS} : Wkd K (Its z) (signs z) F1 H1 Z := by
  have hl : (signs z).length = z.cps.size := by unfold signs; rw [List.length_map, Array.length_toList]
  refine ⟨fun i F H hi k => by show i < z.cps.size; omega, fun F H k => by show z.cps.size ≤ _; rw [hl]; exact Nat.le_refl _, fun i F H x H' d hd k y => ?_⟩
  obtain ⟨rfl, c, hc, rfl⟩ := y
  unfold signs at hd
  rw [List.getElem?_map, Array.getElem?_toList, hc] at hd
  cases hd
  exact ⟨F, Ext.refl k.sub, rfl⟩
theorem rngL_get {a b : Int} {i : Nat} {d : D} (h : (rngL a b)[i]? = some d) : d = .int (a + i) := by
  unfold rngL at h
  rw [List.getElem?_map] at h
  obtain ⟨j, hj, rfl⟩ := Option.map_eq_some_iff.mp h
  obtain ⟨h1, h2⟩ := List.getElem?_eq_some_iff.mp hj
  simp at h2
  subst h2
  rfl
theorem rngL_len {a b : Int} : (rngL a b).length = (b - a).toNat := by unfold rngL; rw [List.length_map, List.length_range]
theorem wkd_rng {a b : Int} {Z : AS} : Wkd K (Itr a (b - a).toNat) (rngL a b) F1 H1 Z := by
  refine ⟨fun i F H hi k => by rw [rngL_len] at hi; exact hi, fun F H k => by rw [rngL_len]; exact Nat.le_refl _, fun i F H x H' d hd k y => ?_⟩
  obtain ⟨rfl, rfl⟩ := y
  rw [rngL_get hd]
  exact ⟨F, Ext.refl k.sub, rfl⟩
theorem pairUp_get : ∀ {xs ys : List D} {i : Nat} {d : D}, (pairUp xs ys)[i]? = some d → ∃ x y, xs[i]? = some x ∧ ys[i]? = some y ∧ d = .tup [x, y]
  | [], _, _, _, h => by simp [pairUp] at h
  | _ :: _, [], _, _, h => by simp [pairUp] at h
  | x :: xs, y :: ys, 0, d, h => by simp [pairUp] at h; exact ⟨x, y, rfl, rfl, h.symm⟩
  | x :: xs, y :: ys, i + 1, d, h => by
    obtain ⟨a, b, h1, h2, h3⟩ := pairUp_get (xs := xs) (ys := ys) (i := i) (d := d) (by simpa [pairUp] using h)
    exact ⟨a, b, by simpa using h1, by simpa using h2, h3⟩
theorem pairUp_len : ∀ {xs ys : List D}, (pairUp xs ys).length = min xs.length ys.length
  | [], _ => by simp [pairUp]
  | _ :: _, [] => by simp [pairUp]
  | x :: xs, y :: ys => by simp only [pairUp, List.length_cons, pairUp_len (xs := xs) (ys := ys)]; omega
theorem newPair {F H : Hp} (s : Same F H) {p : Addr} {x y : V} {dx dy : D} (hp : H p = none) (rx : Rp K F dx x) (ry : Rp K F dy y) : ∃ F', Ext F H F' (upd H p (.tup [x, y])) ∧ Rp K F' (.tup [dx, dy]) (.ref p) :=
  ⟨_, Ext.newF s hp, p, _, rfl, .inl (.inl upd_same), x, [y], rfl, Rp.mono (Ext.newF s hp).f rx, y, [], rfl, Rp.mono (Ext.newF s hp).f ry, rfl⟩
theorem wkd_zip {da db : List D} {va vb : V} {na nb : Nat} {Za Zb : AS} (ra : RO K F1 H1 na (.lst da) va Za) (rb : RO K F1 H1 nb (.lst db) vb Zb) (hna : na ≤ 1) (hnb : nb ≤ 1) (s : Same F1 H1) :
    ∃ a b xs ys, va = .ref a ∧ vb = .ref b ∧ SqL K H1 a xs ∧ SqL K H1 b ys ∧ Wkd K (Itz K a b) (pairUp da db) F1 H1 (fun z => Za z ∨ Zb z) := by
  have getk : ∀ {ds : List D} {v : V} {n : Nat} {Z Z' : AS}, RO K F1 H1 n (.lst ds) v Z → n ≤ 1 → (∀ z, Z z → Z' z) → ∃ a xs, v = .ref a ∧ H1 a = some (.lst xs) ∧ RpL K F1 ds xs ∧ ∀ F H, Kp F1 H1 Z' F H → H a = some (.lst xs) := fun {ds v n Z Z'} r hn hz => by
    match n, r, hn with
    | 0, r, _ =>
      obtain ⟨a, xs, ev, ea, rr⟩ := r
      exact ⟨a, xs, ev, s _ _ ea, rr, fun F H k => k.sub _ _ (k.f _ _ ea)⟩
    | 1, r, _ =>
      obtain ⟨a, xs, T, ev, ea, _, sa, hl, _, _, rr⟩ := r
      exact ⟨a, xs, ev, ea, RpL.of hl rr, fun F H k => k.z _ _ (hz _ sa) ea⟩
  obtain ⟨a, xs, ea, h1, r1, k1⟩ := getk (Z' := fun z => Za z ∨ Zb z) ra hna fun z h => .inl h
  obtain ⟨b, ys, eb, h2, r2, k2⟩ := getk (Z' := fun z => Za z ∨ Zb z) rb hnb fun z h => .inr h
  have l1 := r1.length
  have l2 := r2.length
  refine ⟨a, b, xs, ys, ea, eb, .inl (.inl h1), .inl (.inl h2), fun i F H hi k => ?_, fun F H k => ?_, fun i F H x H' d hd k y => ?_⟩
  · rw [pairUp_len] at hi
    exact ⟨xs, ys, xs[i]'(by omega), ys[i]'(by omega), .inl (.inl (k1 F H k)), .inl (.inl (k2 F H k)), List.getElem?_eq_getElem (by omega), List.getElem?_eq_getElem (by omega)⟩
  · rw [pairUp_len]
    exact ⟨xs, ys, .inl (.inl (k1 F H k)), .inl (.inl (k2 F H k)), by omega⟩
  · obtain ⟨p, x1, x2, rfl, hp, rfl, f1, f2⟩ := y
    obtain ⟨dx, dy, g1, g2, rfl⟩ := pairUp_get hd
    exact newPair k.sub hp (Rp.mono k.f (r1.get g1 (f1 xs (.inl (.inl (k1 F H k)))))) (Rp.mono k.f (r2.get g2 (f2 ys (.inl (.inl (k2 F H k))))))
theorem enumL_get : ∀ {xs : List D} {n i : Nat} {d : D}, (enumL n xs)[i]? = some d → ∃ x, xs[i]? = some x ∧ d = .tup [.int ((n + i : Nat) : Int), x]
  | [], _, _, _, h => by simp [enumL] at h
  | x :: xs, n, 0, d, h => by simp [enumL] at h; exact ⟨x, rfl, h.symm⟩
  | x :: xs, n, i + 1, d, h => by
    obtain ⟨y, h1, h2⟩ := enumL_get (xs := xs) (n := n + 1) (i := i) (d := d) (by simpa [enumL] using h)
    exact ⟨y, by simpa using h1, by rw [h2, show n + 1 + i = n + (i + 1) by omega]⟩
theorem enumL_len : ∀ {xs : List D} {n : Nat}, (enumL n xs).length = xs.length
  | [], _ => rfl
  | _ :: xs, n => by simp [enumL, enumL_len (xs := xs)]
theorem wkd_enum {ds : List D} {v : V} {n : Nat} {Z : AS} (r : RO K F1 H1 n (.lst ds) v Z) (hn : n ≤ 1) (s : Same F1 H1) : ∃ a xs, v = .ref a ∧ SqL K H1 a xs ∧ Wkd K (Ite K a) (enumL 0 ds) F1 H1 Z := by
  have key : ∀ a xs, v = .ref a → H1 a = some (.lst xs) → RpL K F1 ds xs → (∀ F H, Kp F1 H1 Z F H → H a = some (.lst xs)) → ∃ a xs, v = .ref a ∧ SqL K H1 a xs ∧ Wkd K (Ite K a) (enumL 0 ds) F1 H1 Z := fun a xs ev ea rr kk => by
    have hl := rr.length
    refine ⟨a, xs, ev, .inl (.inl ea), fun i F H hi k => ?_, fun F H k => ?_, fun i F H x H' d hd k y => ?_⟩
    · rw [enumL_len] at hi
      exact ⟨xs, xs[i]'(by omega), .inl (.inl (kk F H k)), List.getElem?_eq_getElem (by omega)⟩
    · rw [enumL_len]
      exact ⟨xs, .inl (.inl (kk F H k)), by omega⟩
    · obtain ⟨p, x1, rfl, hp, rfl, f1⟩ := y
      obtain ⟨dx, g1, rfl⟩ := enumL_get hd
      rw [Nat.zero_add]
      exact newPair k.sub hp rfl (Rp.mono k.f (rr.get g1 (f1 xs (.inl (.inl (kk F H k))))))
  match n, r, hn with
  | 0, r, _ =>
    obtain ⟨a, xs, ev, ea, rr⟩ := r
    exact key a xs ev (s _ _ ea) rr fun F H k => k.sub _ _ (k.f _ _ ea)
  | 1, r, _ =>
    obtain ⟨a, xs, T, ev, ea, _, sa, hl, _, _, rr⟩ := r
    exact key a xs ev ea (RpL.of hl rr) fun F H k => k.z _ _ sa ea

/-! what a for's head reads -/
theorem sem_wrng1 {t : TE} {ev : Env → R (D × Env)} {n : Nat} {b : Option Nat} (sa : SemP C E t ev n T b) : SemW C E (iRng1 (tCons t tNil)) (fun env => (ev env).bind fun p => match p.1 with
    | .int n => if rngOk 0 n then .ok (rngL 0 n, p.2) else .bad
    | _ => .bad) T none := fun F H σ env S ri R post => by
  refine sa F H σ env S ri _ (post.bind.to (fun _ h => h) fun p _ hp F1 H1 S1 va Za st1 ri1 ra za => ?_)
  obtain ⟨d, env1⟩ := p
  cases d <;> first | (exact hp.elim) | skip
  rename_i m _
  simp only at hp
  by_cases c : rngOk 0 m = true
  · rw [if_pos c] at hp
    obtain ⟨h1, h2, h3, h4⟩ := rngOk_of c
    refine ⟨m, by rw [ra.int_v], h3, h4, ?_⟩
    have := hp F1 H1 S1 (Itr 0 (m - 0).toNat) noA st1 ri1 wkd_rng fun _ z => z.elim
    rw [Int.sub_zero] at this
    exact this
  · rw [if_neg c] at hp; exact hp.elim
theorem sem_wrng2 {ta tb : TE} {ea eb : Env → R (D × Env)} {na nb : Nat} {ba bb : Option Nat} (sa : SemP C E ta ea na T1 ba) (sb : SemP C E tb eb nb T2 bb) (hb : ∀ i, ba = some i → i ∉ T2) : SemW C E (iRng2 (tCons ta (tCons tb tNil))) (fun env => (ea env).bind fun p => (eb p.2).bind fun q => match p.1, q.1 with
    | .int i, .int j => if rngOk i j then .ok (rngL i j, q.2) else .bad
    | _, _ => .bad) (T1 ++ T2) none := fun F H σ env S ri R post => by
  refine sa F H σ env S ri _ (post.bind.to (fun _ h => List.mem_append_left _ h) fun p _ hp F1 H1 S1 va Za st1 ri1 ra za => ?_)
  refine sb F1 H1 σ p.2 S1 ri1 _ (hp.bind.step st1 (fun _ h => List.mem_append_left _ h) (fun _ h => List.mem_append_right _ h) fun q _ hq F2 H2 S2 vb Zb st2 ri2 rb zb => ?_)
  have ra2 : RO C.K F2 H2 na p.1 va Za := st2.ro ra fun a z i hi w => hb i ((za a z).2 i w) hi
  obtain ⟨d, env1⟩ := p
  obtain ⟨d', env2⟩ := q
  cases d <;> cases d' <;> first | (exact hq.elim) | skip
  rename_i i _ j _
  simp only at hq
  by_cases c : rngOk i j = true
  · rw [if_pos c] at hq
    exact ⟨i, j, by rw [ra2.int_v, rb.int_v], rngOk_of c, hq F2 H2 S2 _ noA (st1.trans st2) ri2 wkd_rng fun _ z => z.elim⟩
  · rw [if_neg c] at hq; exact hq.elim
theorem rngD_get {a b : Int} {i : Nat} {d : D} (h : (rngD a b)[i]? = some d) : d = .int (a + (i : Nat) * -1) := by
  unfold rngD at h
  rw [List.getElem?_map] at h
  obtain ⟨j, hj, rfl⟩ := Option.map_eq_some_iff.mp h
  obtain ⟨h1, h2⟩ := List.getElem?_eq_some_iff.mp hj
  simp at h2
  subst h2
  rfl
theorem rngD_len {a b : Int} : (rngD a b).length = (a - b).toNat := by unfold rngD; rw [List.length_map, List.length_range]
theorem wkd_rngD {a b : Int} {Z : AS} : Wkd K (Itc a (-1) (a - b).toNat) (rngD a b) F1 H1 Z := by
  refine ⟨fun i F H hi k => by rw [rngD_len] at hi; exact hi, fun F H k => by rw [rngD_len]; exact Nat.le_refl _, fun i F H x H' d hd k y => ?_⟩
  obtain ⟨rfl, rfl⟩ := y
  rw [rngD_get hd]
  exact ⟨F, Ext.refl k.sub, rfl⟩
theorem sem_wrng3 {ta tb tc : TE} {ea eb ec : Env → R (D × Env)} {na nb nc : Nat} {ba bb bc : Option Nat} {T3 : List Nat} (sa : SemP C E ta ea na T1 ba) (sb : SemP C E tb eb nb T2 bb) (sc : SemP C E tc ec nc T3 bc) (hb : ∀ i, ba = some i → i ∉ T2) (hc : ∀ i, ba = some i → i ∉ T3) (hd : ∀ i, bb = some i → i ∉ T3) : SemW C E (iRng3 (tCons ta (tCons tb (tCons tc tNil)))) (fun env => (ea env).bind fun p => (eb p.2).bind fun q => (ec q.2).bind fun r => match p.1, q.1, r.1 with
    | .int i, .int j, .int c => if (decide (c = -1) && rngOk i j) = true then .ok (rngD i j, r.2) else .bad
    | _, _, _ => .bad) (T1 ++ (T2 ++ T3)) none := fun F H σ env S ri R post => by
  refine sa F H σ env S ri _ (post.bind.to (fun _ h => List.mem_append_left _ h) fun p _ hp F1 H1 S1 va Za st1 ri1 ra za => ?_)
  refine sb F1 H1 σ p.2 S1 ri1 _ (hp.bind.step st1 (fun _ h => List.mem_append_left _ h) (fun _ h => List.mem_append_right _ (List.mem_append_left _ h)) fun q _ hq F2 H2 S2 vb Zb st2 ri2 rb zb => ?_)
  refine sc F2 H2 σ q.2 S2 ri2 _ (hq.bind.step (st1.trans st2) (fun i h => by
    rcases List.mem_append.mp h with h | h
    · exact List.mem_append_left _ h
    · exact List.mem_append_right _ (List.mem_append_left _ h)) (fun _ h => List.mem_append_right _ (List.mem_append_right _ h)) fun r _ hr F3 H3 S3 vc Zc st3 ri3 rc zc => ?_)
  have ra2 : RO C.K F2 H2 na p.1 va Za := st2.ro ra fun a z i hi w => hb i ((za a z).2 i w) hi
  obtain ⟨d, env1⟩ := p
  obtain ⟨d', env2⟩ := q
  obtain ⟨d'', env3⟩ := r
  cases d <;> cases d' <;> cases d'' <;> first | (exact hr.elim) | skip
  rename_i i _ j _ c _
  simp only at hr
  by_cases cc : (decide (c = -1) && rngOk i j) = true
  · rw [if_pos cc] at hr
    obtain ⟨c1, c2⟩ := Bool.and_eq_true_iff.mp cc
    have c1 := of_decide_eq_true c1
    obtain ⟨h1, h2, h3, h4⟩ := rngOk_of c2
    refine ⟨i, j, c, (i - j).toNat, by rw [ra2.int_v, rb.int_v, rc.int_v], by rw [c1]; exact RgC.neg h1 h2 h3 h4, ?_⟩
    rw [c1]
    exact hr F3 H3 S3 _ noA (by simpa [List.append_assoc] using (st1.trans st2).trans st3) ri3 wkd_rngD fun _ z => z.elim
  · rw [if_neg cc] at hr; exact hr.elim
/-- a list, a tuple, a text -/
def iAny (K : PySem.W.Frag) (t : TE) : TI := fun σ H R => iList K t σ H R ∨ (iTup K t σ H R ∨ iStr t σ H R)
theorem sem_wit {t : TE} {ev : Env → R (D × Env)} {n : Nat} {b : Option Nat} (sa : SemP C E t ev n T b) (hn : n ≤ 1) : SemW C E (iAny C.K t) (fun env => (ev env).bind fun p => (ofOpt (itemsOf p.1)).bind fun ds => .ok (ds, p.2)) T b := fun F H σ env S ri R post => by
  have go : ∀ w : V → Hp → (It → Hp → Prop) → Prop, (∀ p, ev env = .ok p → ∀ F1 H1 v Z, RO C.K F1 H1 n p.1 v Z → Same F1 H1 → ∀ ds, itemsOf p.1 = some ds → ∀ R, (∀ J, Wkd C.K J ds F1 H1 Z → R J H1) → w v H1 R) → t σ H fun x H1 => w x H1 R := fun w hw => by
    refine sa F H σ env S ri _ (post.bind.to (fun _ h => h) fun p ep hp F1 H1 S1 va Za st1 ri1 ra za => ?_)
    obtain ⟨ds, hd, hq⟩ := hp.opt
    exact hw p ep F1 H1 va Za ra ri1.sub ds hd R fun J wk => hq F1 H1 S1 J Za st1 ri1 wk za
  have kind : (∃ p, ev env = .ok p ∧ ((∃ ds, p.1 = .tup ds) ∨ ∃ z, p.1 = .str z)) ∨ ∀ p, ev env = .ok p → ∀ ds, itemsOf p.1 = some ds → (p.1 = .lst ds ∨ ∃ ns, p.1 = .scr ns ∧ ds = ns.map D.int) := by
    cases h : ev env with
    | bad => exact .inr fun p e => by cases e
    | exc c d => exact .inr fun p e => by cases e
    | ok p =>
      obtain ⟨d, env1⟩ := p
      cases d
      case tup ds => exact .inl ⟨_, rfl, .inl ⟨ds, rfl⟩⟩
      case str z => exact .inl ⟨_, rfl, .inr ⟨z, rfl⟩⟩
      all_goals (refine .inr fun p e ds hd => ?_; cases e; first | (cases hd; done) | (cases hd; exact .inl rfl) | (cases hd; exact .inr ⟨_, rfl, rfl⟩))
  rcases kind with ⟨p0, e0, ⟨ds0, h0⟩ | ⟨z0, h0⟩⟩ | hk
  · refine .inr (.inl (go (fun x H1 R => ∃ a, x = .ref a ∧ (∃ xs, SqT C.K H1 a xs) ∧ R (Itt C.K a) H1) fun p e F1 H1 v Z r s ds hd R q => ?_))
    rw [e0] at e; cases e
    rw [h0] at r hd
    cases hd
    obtain ⟨a, xs, ev, hs, wk⟩ := wkd_tup (H1 := H1) (Z := Z) r.tup_v s
    exact ⟨a, ev, ⟨xs, hs⟩, q _ wk⟩
  · refine .inr (.inr (go (fun x H1 R => ∃ y, x = .str y ∧ R (Its y) H1) fun p e F1 H1 v Z r s ds hd R q => ?_))
    rw [e0] at e; cases e
    rw [h0] at r hd
    cases hd
    exact ⟨z0, r.str_v, q _ wkd_str⟩
  · refine .inl (go (fun x H1 R => ∃ a, x = .ref a ∧ (∃ xs, SqL C.K H1 a xs) ∧ R (Itl C.K a) H1) fun p e F1 H1 v Z r s ds hd R q => ?_)
    rcases hk p e ds hd with h | ⟨ns, h, rfl⟩
    · rw [h] at r
      obtain ⟨a, xs, ev, hs, wk⟩ := wkd_list r hn s
      exact ⟨a, ev, ⟨xs, hs⟩, q _ wk⟩
    · rw [h] at r
      obtain ⟨a, xs, ev, hs, wk⟩ := wkd_scr (H1 := H1) (Z := Z) r.scr_v s
      exact ⟨a, ev, ⟨xs, hs⟩, q _ wk⟩
theorem sem_wzip {ta tb : TE} {ea eb : Env → R (D × Env)} {na nb : Nat} {ba bb : Option Nat} (sa : SemP C E ta ea na T1 ba) (sb : SemP C E tb eb nb T2 bb) (hb : ∀ i, ba = some i → i ∉ T2) (hna : na ≤ 1) (hnb : nb ≤ 1) (b : Option Nat) (h1 : ∀ i, ba = some i → b = some i) (h2 : ∀ i, bb = some i → b = some i) : SemW C E (iZip C.K (tCons ta (tCons tb tNil))) (fun env => (ea env).bind fun p => (eb p.2).bind fun q => match p.1, q.1 with
    | .lst xs, .lst ys => .ok (pairUp xs ys, q.2)
    | _, _ => .bad) (T1 ++ T2) b := fun F H σ env S ri R post => by
  refine sa F H σ env S ri _ (post.bind.to (fun _ h => List.mem_append_left _ h) fun p _ hp F1 H1 S1 va Za st1 ri1 ra za => ?_)
  refine sb F1 H1 σ p.2 S1 ri1 _ (hp.bind.step st1 (fun _ h => List.mem_append_left _ h) (fun _ h => List.mem_append_right _ h) fun q _ hq F2 H2 S2 vb Zb st2 ri2 rb zb => ?_)
  have ra2 : RO C.K F2 H2 na p.1 va Za := st2.ro ra fun a z i hi w => hb i ((za a z).2 i w) hi
  obtain ⟨d, env1⟩ := p
  obtain ⟨d', env2⟩ := q
  cases d <;> cases d' <;> first | (exact hq.elim) | skip
  obtain ⟨a, b', xs, ys, e1, e2, s1, s2, wk⟩ := wkd_zip ra2 rb hna hnb ri2.sub
  refine ⟨a, b', xs, ys, by rw [e1, e2], s1, s2, hq F2 H2 S2 _ _ (st1.trans st2) ri2 wk fun z hz => ?_⟩
  rcases hz with hz | hz
  · obtain ⟨⟨o, e⟩, h⟩ := za z hz
    refine ⟨st2.there z o e, fun i w => ?_⟩
    rcases st2.fp i z w with w | ⟨j, hj, w⟩ | w
    · exact h1 i (h i w)
    · exact absurd hj (hb j (h j w))
    · rw [e] at w; cases w
  · exact ⟨(zb z hz).1, fun i w => h2 i ((zb z hz).2 i w)⟩
theorem sem_wenum {t : TE} {ev : Env → R (D × Env)} {n : Nat} {b : Option Nat} (sa : SemP C E t ev n T b) (hn : n ≤ 1) : SemW C E (iEnum C.K (tCons t tNil)) (fun env => (ev env).bind fun p => match p.1 with
    | .lst xs => .ok (enumL 0 xs, p.2)
    | _ => .bad) T b := fun F H σ env S ri R post => by
  refine sa F H σ env S ri _ (post.bind.to (fun _ h => h) fun p _ hp F1 H1 S1 va Za st1 ri1 ra za => ?_)
  obtain ⟨d, env1⟩ := p
  cases d <;> first | (exact hp.elim) | skip
  obtain ⟨a, xs, ev, hs, wk⟩ := wkd_enum ra hn ri1.sub
  exact ⟨a, xs, by rw [ev], hs, hp F1 H1 S1 _ Za st1 ri1 wk za⟩
end
end DL
/-! DL9: list comprehensions; pop, displays of dicts. -/
namespace DL
open PySem PySem.Spec PyProof.Rows L2

section
variable {C : CC} {E : XK} {T T1 T2 T3 : List Nat} {F H F1 H1 F2 H2 : Hp} {S S1 S2 : Nat → AS} {K : PySem.W.Frag} {G : Nat → Nat}
/-! ### slots forgotten and set back -/
theorem wipe_get (σ : L2.St) : ∀ (vs : List Nat) (i : Nat), (wipe σ vs)[i]? = if i ∈ vs then (σ[i]?).map fun _ => none else σ[i]?
  | [], i => by simp [wipe]
  | v :: vs, i => by
    unfold wipe
    rw [List.getElem?_set, wipe_get σ vs i]
    by_cases h : v = i
    · subst h
      rw [if_pos rfl, if_pos List.mem_cons_self, wipe_length]
      by_cases c : v < σ.length
      · rw [if_pos c, List.getElem?_eq_getElem c]; rfl
      · rw [if_neg c, List.getElem?_eq_none (by omega)]; rfl
    · rw [if_neg h]
      by_cases c : i ∈ vs
      · rw [if_pos c, if_pos (List.mem_cons_of_mem _ c)]
      · rw [if_neg c, if_neg (by simp; exact ⟨fun e => h e.symm, c⟩)]
theorem wipe_eq {σ σ' : L2.St} {vs : List Nat} (hl : σ'.length = σ.length) (h : ∀ i, i ∉ vs → σ'[i]? = σ[i]?) : wipe σ' vs = wipe σ vs := by
  refine List.ext_getElem? fun i => ?_
  rw [wipe_get, wipe_get]
  by_cases c : i ∈ vs
  · rw [if_pos c, if_pos c]
    by_cases q : i < σ.length
    · rw [List.getElem?_eq_getElem q, List.getElem?_eq_getElem (by omega)]; rfl
    · rw [List.getElem?_eq_none (by omega), List.getElem?_eq_none (by omega)]
  · rw [if_neg c, if_neg c]; exact h i c
theorem wipe_wipe (σ : L2.St) (vs : List Nat) : wipe (wipe σ vs) vs = wipe σ vs := wipe_eq (wipe_length _ _) fun i hi => by rw [wipe_get, if_neg hi]
theorem unset_gt : ∀ {vs : List Nat} {env : Env} {i : Nat} {d : D}, gt (unset vs env) i = some d → i ∉ vs ∧ gt env i = some d
  | [], _, _, _, h => ⟨by simp, h⟩
  | v :: vs, env, i, d, h => by
    unfold unset at h
    by_cases e : v = i
    · subst e; exact (nomatch gt_set_self h)
    · rw [gt_set_ne e] at h
      obtain ⟨h1, h2⟩ := unset_gt h
      exact ⟨by simp; exact ⟨fun q => e q.symm, h1⟩, h2⟩
theorem unset_len : ∀ {vs : List Nat} {env : Env}, (unset vs env).length = env.length
  | [], _ => rfl
  | v :: vs, env => by unfold unset; rw [List.length_set, unset_len]
theorem reset_gt : ∀ {vs : List Nat} {old env : Env} {i : Nat} {d : D}, gt (reset vs old env) i = some d → (i ∈ vs ∧ gt old i = some d) ∨ (i ∉ vs ∧ gt env i = some d)
  | [], _, _, _, _, h => .inr ⟨by simp, h⟩
  | v :: vs, old, env, i, d, h => by
    unfold reset at h
    by_cases e : v = i
    · subst e
      exact .inl ⟨List.mem_cons_self, gt_set_self h⟩
    · rw [gt_set_ne e] at h
      rcases reset_gt h with ⟨h1, h2⟩ | ⟨h1, h2⟩
      · exact .inl ⟨List.mem_cons_of_mem _ h1, h2⟩
      · exact .inr ⟨by simp; exact ⟨fun q => e q.symm, h1⟩, h2⟩
theorem reset_len : ∀ {vs : List Nat} {old env : Env}, (reset vs old env).length = env.length
  | [], _, _ => rfl
  | v :: vs, old, env => by unfold reset; rw [List.length_set, reset_len]
theorem RI.wiped {σ : L2.St} {env : Env} (r : RI K G F H σ env S) (vs : List Nat) : RI K G F H (wipe σ vs) (unset vs env) S :=
  ⟨r.sub, fun i d g => by
    obtain ⟨h1, h2⟩ := unset_gt g
    obtain ⟨v, e, q⟩ := r.cell i d h2
    exact ⟨v, by rw [wipe_get, if_neg h1]; exact e, q⟩, r.dj, r.lv, by rw [wipe_length, unset_len]; exact r.len⟩
/-- an object that no slot has is changed -/
theorem RI.updD {σ : L2.St} {env : Env} {a : Addr} {o : HO} (r : RI K G F H σ env S) (hS : ∀ i, ¬ S i a) (hF : F a = none) : RI K G F (upd H a o) σ env S :=
  ⟨fun b x e => by
    have : b ≠ a := fun q => by subst q; rw [hF] at e; cases e
    rw [upd_ne this]; exact r.sub b x e, fun i d g => by
    obtain ⟨v, e, q⟩ := r.cell i d g
    exact ⟨v, e, q.frame (Same.refl _) fun b x z e' f => ⟨f, by rw [upd_ne fun q => hS i (by rw [← q]; exact z)]; exact e'⟩⟩, r.dj, fun i b z => by
    obtain ⟨x, e⟩ := r.lv i b z
    exact ⟨x, by rw [upd_ne fun q => hS i (by rw [← q]; exact z)]; exact e⟩, r.len⟩
theorem Stp.updD {a : Addr} {o : HO} (st : Stp T F1 H1 S1 F H S) (h1 : H1 a = none) : Stp T F1 H1 S1 F (upd H a o) S :=
  ⟨st.mono, fun b x e => by
    obtain ⟨y, q⟩ := st.there b x e
    by_cases c : b = a
    · subst c; exact ⟨o, upd_same⟩
    · exact ⟨y, by rw [upd_ne c]; exact q⟩, fun b x e n => by rw [upd_ne (ne_of_none e h1)]; exact st.keep b x e n, st.keepF, st.fp, st.same⟩
theorem RO.updD {n : Nat} {d : D} {v : V} {Z : AS} {a : Addr} {o : HO} (r : RO K F H n d v Z) (hz : ¬ Z a) : RO K F (upd H a o) n d v Z :=
  r.frame (Same.refl _) fun b x z e f => ⟨f, by rw [upd_ne fun q => hz (by rw [← q]; exact z)]; exact e⟩

theorem mem_aba {A B : List Nat} {i : Nat} (h : i ∈ (A ++ B) ++ A) : i ∈ A ++ B := (List.mem_append.mp h).elim id fun q => List.mem_append_left _ q
theorem mem_abab {A B : List Nat} {i : Nat} (h : i ∈ (A ++ B) ++ (A ++ B)) : i ∈ A ++ B := (List.mem_append.mp h).elim id id
theorem lcL_nil {un : Env → Env} {bd : D → Env → R Env} {c : Env → R (Bool × Env)} {e : Env → R (D × Env)} {env : Env} : lcL un bd c e [] env = .ok ([], env) := rfl
/-- a turn of a comprehension -/
theorem lcL_cons {un : Env → Env} {bd : D → Env → R Env} {c : Env → R (Bool × Env)} {e : Env → R (D × Env)} {d : D} {ds : List D} {env : Env} {q : List D × Env} (h : lcL un bd c e (d :: ds) env = .ok q) :
    ∃ env1 b env2, bd d env = .ok env1 ∧ c env1 = .ok (b, env2) ∧ ((b = true ∧ ∃ y env3 q', e env2 = .ok (y, env3) ∧ lcL un bd c e ds (un env3) = .ok q' ∧ q = (y :: q'.1, q'.2)) ∨ (b = false ∧ lcL un bd c e ds (un env2) = .ok q)) := by
  unfold lcL at h
  split at h
  · rename_i env1 h1
    split at h
    · rename_i env2 h2
      split at h
      · rename_i y env3 h3
        split at h
        · rename_i ys env4 h4
          cases h
          exact ⟨env1, true, env2, h1, h2, .inl ⟨rfl, y, env3, _, h3, h4, rfl⟩⟩
        · cases h
      · cases h
    · rename_i env2 h2
      exact ⟨env1, false, env2, h1, h2, .inr ⟨rfl, h⟩⟩
    · cases h
  · cases h
theorem lcL_exc {un : Env → Env} {bd : D → Env → R Env} {c : Env → R (Bool × Env)} {e : Env → R (D × Env)} : ∀ {ds : List D} {env : Env} {x : Nat} {d : D}, lcL un bd c e ds env ≠ .exc x d
  | [], _, _, _ => nofun
  | d :: ds, env, x, y => by
    intro h
    unfold lcL at h
    repeat' split at h
    all_goals first | (cases h; done) | exact lcL_exc h

/-- a comprehension's turns, where what is walked has come -/
theorem lc_at {g : TG} {tt : TT} {te : TE} {bd : DL.D → Env → R Env} {cnd : Env → R (Bool × Env)} {elt : Env → R (DL.D × Env)} {vs : List Nat} {n : Nat} {b : Option Nat}
    (sg : SemG C g bd vs) (sc : SemT C E0 tt cnd T2) (se : SemE C E0 te elt n T3) (hg : ∀ i ∈ vs, C.g i = 0) (hb : ∀ i, b = some i → i ∉ T2 ++ T3)
    {σ : L2.St} {p : List DL.D × Env} {J : It} {Zw : AS} (st1 : Stp T1 F H S F1 H1 S1) (ri1 : RI C.K C.g F1 H1 σ p.2 S1) (wk : Wkd C.K J p.1 F1 H1 Zw) (hzw : ∀ a, Zw a → (∃ o, H1 a = some o) ∧ ∀ i, S1 i a → b = some i) (Q : VK)
    (hp : Post C E (T1 ++ (T2 ++ T3)) F H S ((lcL (unset vs) bd cnd elt p.1 (unset vs p.2)).bind fun q => if q.1.length ≤ sizeLine then .ok (.lst q.1, reset vs p.2 q.2) else .bad) (fun p => ∀ F' H' S' v Z, Stp (T1 ++ (T2 ++ T3)) F H S F' H' S' → RI C.K C.g F' H' σ p.2 S' → RO C.K F' H' (n + 1) p.1 v Z → Frs (T1 ++ (T2 ++ T3)) H S H' S' Z → Q v H')) :
    tLc (fun _ H R => R J H) g tt te vs σ H1 Q := fun D hD => by
  obtain ⟨q, hq, hk⟩ := hp.bindo fun _ _ => lcL_exc
  have hsz : q.1.length ≤ sizeLine := by
    by_cases c : q.1.length ≤ sizeLine
    · exact c
    · rw [if_neg c] at hk; exact hk.elim
  rw [if_pos hsz] at hk
  have fresh : ∀ i, ¬ S1 i D := fun i => ri1.new hD
  -- the invariant
  refine ⟨fun i m H' => m = p.1.length - i ∧ i ≤ p.1.length ∧ ∃ F' env' S' acc dacc, ∃ Z : Nat → AS, ∃ q' : List DL.D × Env, Stp (T2 ++ T3) F1 H1 S1 F' H' S' ∧ RI C.K C.g F' H' (wipe σ vs) env' S' ∧ H' D = some (.lst acc) ∧ F' D = none ∧ (∀ i, ¬ S' i D) ∧
      dacc.length = acc.length ∧ (∀ j d v, dacc[j]? = some d → acc[j]? = some v → RO C.K F' H' n d v (Z j)) ∧ (∀ j a, Z j a → a ≠ D ∧ (∃ o, H' a = some o) ∧ (H1 a = none ∨ ∃ i ∈ T2 ++ T3, S1 i a) ∧ ∀ i, ¬ S' i a) ∧
      (∀ i j a, Z i a → Z j a → i = j) ∧ lcL (unset vs) bd cnd elt (p.1.drop i) env' = .ok q' ∧ q.1 = dacc ++ q'.1 ∧ q.2 = q'.2, ⟨p.1.length, ?_⟩, ?_⟩
  · refine ⟨by simp, Nat.zero_le _, F1, unset vs p.2, S1, [], [], fun _ => noA, q, (Stp.refl (T := T2 ++ T3)).updD hD, (ri1.wiped vs).updD fresh (ri1.sub.free hD), upd_same, ri1.sub.free hD, fresh, rfl, fun j d v h => by simp at h, fun j a z => z.elim, fun i j a z => z.elim, hq, rfl, rfl⟩
  · rintro i m H' ⟨rfl, hi, F', env', S', acc, dacc, Z, q', st, ri', hDa, hDf, hDS, hlen, hro, hz, hdj, hev, hq1, hq2⟩
    have kp : Kp F1 H1 Zw F' H' := st.kp ri' hzw hb
    by_cases hlt : i < p.1.length
    · -- a turn
      refine .inr ⟨wk.goes i F' H' hlt kp, fun H'' => ∃ F' env' S' acc dacc, ∃ Z : Nat → AS, ∃ q' : List DL.D × Env, Stp (T2 ++ T3) F1 H1 S1 F' H'' S' ∧ RI C.K C.g F' H'' (wipe σ vs) env' S' ∧ H'' D = some (.lst acc) ∧ F' D = none ∧ (∀ i, ¬ S' i D) ∧
        dacc.length = acc.length ∧ (∀ j d v, dacc[j]? = some d → acc[j]? = some v → RO C.K F' H'' n d v (Z j)) ∧ (∀ j a, Z j a → a ≠ D ∧ (∃ o, H'' a = some o) ∧ (H1 a = none ∨ ∃ i ∈ T2 ++ T3, S1 i a) ∧ ∀ i, ¬ S' i a) ∧
        (∀ i j a, Z i a → Z j a → i = j) ∧ lcL (unset vs) bd cnd elt (p.1.drop (i + 1)) env' = .ok q' ∧ q.1 = dacc ++ q'.1 ∧ q.2 = q'.2, fun H'' h => ⟨p.1.length - (i + 1), by omega, rfl, hlt, h⟩, fun x Hx hy => ?_⟩
      have hdi : p.1[i]? = some p.1[i] := List.getElem?_eq_getElem hlt
      obtain ⟨Fx, ext, rx⟩ := wk.yld i F' H' x Hx _ hdi kp hy
      rw [List.drop_eq_getElem_cons hlt] at hev
      obtain ⟨env1, bb, env2, e1, e2, hrest⟩ := lcL_cons hev
      have rix := ri'.ext ext
      have stx : Stp (T2 ++ T3) F1 H1 S1 Fx Hx S' := (st.trans (T2 := []) ext.stp).weak fun i hi => by simpa using hi
      refine sg Fx Hx (wipe σ vs) env' S' _ x env1 rix rx e1 _ fun σ2 ri2 hl2 hs2 => ?_
      have ew : wipe σ2 vs = wipe σ vs := (wipe_eq hl2 hs2).trans (wipe_wipe σ vs)
      refine ⟨ew, sc Fx Hx σ2 env1 S' ri2 _ ?_⟩
      rw [e2]
      refine fun F3 H3 S3 st3 ri3 => ?_
      have st13 : Stp (T2 ++ T3) F1 H1 S1 F3 H3 S3 := (stx.trans st3).weak fun i hi => mem_aba hi
      have hD3 : ∀ {Hn Sn Fn} {T' : List Nat}, Stp T' Fx Hx S' Fn Hn Sn → Hn D = some (.lst acc) ∧ Fn D = none ∧ ∀ i, ¬ Sn i D := fun {Hn Sn Fn T'} s => by
        have hx : Hx D = some (.lst acc) := ext.h D _ hDa
        refine ⟨s.keep D _ hx fun i _ => hDS i, s.keepF D _ hx (ext.n D _ hDa hDf) fun i _ => hDS i, fun i w => ?_⟩
        rcases s.fp i D w with w | ⟨j, _, w⟩ | w
        · exact hDS i w
        · exact hDS j w
        · rw [hx] at w; cases w
      have hzn : ∀ {Hn Sn Fn} {T' : List Nat}, Stp T' Fx Hx S' Fn Hn Sn → (∀ j d v, dacc[j]? = some d → acc[j]? = some v → RO C.K Fn Hn n d v (Z j)) ∧ ∀ j a, Z j a → a ≠ D ∧ (∃ o, Hn a = some o) ∧ (H1 a = none ∨ ∃ i ∈ T2 ++ T3, S1 i a) ∧ ∀ i, ¬ Sn i a := fun {Hn Sn Fn T'} s => by
        refine ⟨fun j d v h1 h2 => ?_, fun j a z => ?_⟩
        · have r1 : RO C.K Fx Hx n d v (Z j) := (hro j d v h1 h2).frame ext.f fun a o _ e f => ⟨ext.n a o e f, ext.h a o e⟩
          exact s.ro r1 fun a z i _ => (hz j a z).2.2.2 i
        · obtain ⟨z1, ⟨o, z2⟩, z3, z4⟩ := hz j a z
          have hx := ext.h a o z2
          refine ⟨z1, s.there a o hx, z3, fun i w => ?_⟩
          rcases s.fp i a w with w | ⟨j, _, w⟩ | w
          · exact z4 i w
          · exact z4 j w
          · rw [hx] at w; cases w
      rcases hrest with ⟨rfl, y, env3, q3, e3, e4, rfl⟩ | ⟨rfl, e4⟩
      · -- the item is kept
        rw [if_pos rfl]
        refine se F3 H3 σ2 env2 S3 ri3 _ ?_
        rw [e3]
        refine fun F4 H4 S4 v Zy st4 ri4 ry fy => ?_
        have st34 := st3.trans st4
        obtain ⟨d1, d2, d3⟩ := hD3 st34
        obtain ⟨z1, z2⟩ := hzn st34
        have hyD : ¬ Zy D := fun w => by
          obtain ⟨_, n1, _⟩ := fy D w
          obtain ⟨q1, _, q3'⟩ := hD3 st3
          rcases n1 with n1 | ⟨i, _, n1⟩
          · rw [q1] at n1; cases n1
          · exact q3' i n1
        obtain ⟨Zn, hZn⟩ : ∃ Zn : Nat → AS, Zn = fun j => if j = dacc.length then Zy else if j < dacc.length then Z j else noA := ⟨_, rfl⟩
        have zA : Zn dacc.length = Zy := by rw [hZn]; exact if_pos rfl
        have zB : ∀ j, j < dacc.length → Zn j = Z j := fun j hj => by rw [hZn]; show (if j = dacc.length then Zy else if j < dacc.length then Z j else noA) = _; rw [if_neg (by omega), if_pos hj]
        have zC : ∀ j, dacc.length < j → Zn j = noA := fun j hj => by rw [hZn]; show (if j = dacc.length then Zy else if j < dacc.length then Z j else noA) = _; rw [if_neg (by omega), if_neg (by omega)]
        clear hZn
        refine ⟨acc, d1, ?_, F4, unset vs env3, S4, acc ++ [v], dacc ++ [y], Zn, q3, ?_, ?_, upd_same, d2, d3, by simp [hlen], fun j d w h1 h2 => ?_, fun j a z => ?_, fun j l a z1' z2' => ?_, e4, by rw [hq1]; simp, hq2⟩
        · have : (dacc ++ y :: q3.1).length ≤ sizeLine := by rw [← hq1]; exact hsz
          simp at this
          omega
        · exact ((stx.trans st34).weak fun i hi => mem_abab hi).updD hD
        · have := (ri4.wiped vs).updD (a := D) (o := .lst (acc ++ [v])) d3 d2
          rw [ew] at this
          exact this
        · by_cases c : j = dacc.length
          · subst c
            rw [List.getElem?_append_right (Nat.le_refl _), Nat.sub_self] at h1
            rw [List.getElem?_append_right (by omega), hlen, Nat.sub_self] at h2
            simp at h1 h2
            subst h1 h2
            rw [zA]
            exact ry.updD hyD
          · have hj : j < dacc.length := by
              obtain ⟨h, _⟩ := List.getElem?_eq_some_iff.mp h1
              simp at h; omega
            rw [List.getElem?_append_left hj] at h1
            rw [List.getElem?_append_left (by omega)] at h2
            rw [zB j hj]
            exact (z1 j d w h1 h2).updD fun q => (z2 j D q).1 rfl
        · rcases Nat.lt_trichotomy j dacc.length with c | c | c
          · rw [zB j c] at z
            obtain ⟨w1, ⟨o, w2⟩, w3, w4⟩ := z2 j a z
            exact ⟨w1, ⟨o, by rw [upd_ne w1]; exact w2⟩, w3, w4⟩
          · rw [c, zA] at z
            obtain ⟨⟨o, n0⟩, n1, n2⟩ := fy a z
            have aD : a ≠ D := fun e => hyD (by rw [← e]; exact z)
            refine ⟨aD, ⟨o, by rw [upd_ne aD]; exact n0⟩, ?_, n2⟩
            rcases n1 with n1 | ⟨i, hi, n1⟩
            · exact .inl (none_of st13.there n1)
            · rcases st13.fp i a n1 with w | w | w
              · exact .inr ⟨i, List.mem_append_right _ hi, w⟩
              · exact .inr w
              · exact .inl w
          · rw [zC j c] at z; exact z.elim
        · have old : ∀ j, Z j a → Zy a → False := fun j w wy => by
            obtain ⟨_, ⟨o, w2⟩, _, w4⟩ := (hzn st3).2 j a w
            obtain ⟨_, n1, _⟩ := fy a wy
            rcases n1 with n1 | ⟨i, _, n1⟩
            · rw [w2] at n1; cases n1
            · exact w4 i n1
          rcases Nat.lt_trichotomy j dacc.length with c | c | c
          · rw [zB j c] at z1'
            rcases Nat.lt_trichotomy l dacc.length with c' | c' | c'
            · rw [zB l c'] at z2'; exact hdj j l a z1' z2'
            · rw [c', zA] at z2'; exact (old j z1' z2').elim
            · rw [zC l c'] at z2'; exact z2'.elim
          · rw [c, zA] at z1'
            rcases Nat.lt_trichotomy l dacc.length with c' | c' | c'
            · rw [zB l c'] at z2'; exact (old l z2' z1').elim
            · omega
            · rw [zC l c'] at z2'; exact z2'.elim
          · rw [zC j c] at z1'; exact z1'.elim
      · -- the item is dropped
        rw [if_neg Bool.false_ne_true]
        obtain ⟨d1, d2, d3⟩ := hD3 st3
        obtain ⟨z1, z2⟩ := hzn st3
        refine ⟨F3, unset vs env2, S3, acc, dacc, Z, q', st13, ?_, d1, d2, d3, hlen, z1, z2, hdj, e4, hq1, hq2⟩
        have := ri3.wiped vs
        rw [ew] at this
        exact this
    · -- the end
      have ei : i = p.1.length := by omega
      subst ei
      refine .inl ⟨wk.stops F' H' kp, ?_⟩
      rw [List.drop_length, lcL_nil] at hev
      cases hev
      simp only [List.append_nil] at hq1 hq2
      have stt := st1.trans st
      refine hk F' H' S' (.ref D) (fun a => a = D ∨ ∃ j, Z j a) stt ⟨ri'.sub, fun j d gj => ?_, ri'.dj, ri'.lv, ?_⟩ ?_ fun a ha => ?_
      · rcases reset_gt gj with ⟨h1, h2⟩ | ⟨h1, h2⟩
        · obtain ⟨v, e, r⟩ := ri1.cell j d h2
          rw [hg j h1] at r ⊢
          exact ⟨v, e, Rp.mono st.mono r⟩
        · rw [hq2] at h2
          obtain ⟨v, e, r⟩ := ri'.cell j d h2
          rw [wipe_get, if_neg h1] at e
          exact ⟨v, e, r⟩
      · have := ri'.len
        rw [wipe_length] at this
        rw [reset_len, hq2]
        exact this
      · show RO C.K F' H' (n + 1) (.lst q.1) (.ref D) _
        rw [hq1]
        exact ⟨D, acc, Z, rfl, hDa, hDf, .inl rfl, hlen, fun j b z => ⟨.inr ⟨j, z⟩, (hz j b z).1⟩, hdj, hro⟩
      · rcases ha with rfl | ⟨j, z⟩
        · exact ⟨⟨_, hDa⟩, .inl (none_of st1.there hD), hDS⟩
        · obtain ⟨z1, z2, z3, z4⟩ := hz j a z
          refine ⟨z2, ?_, z4⟩
          rcases z3 with z3 | ⟨i, hi, z3⟩
          · exact .inl (none_of st1.there z3)
          · rcases st1.fp i a z3 with w | ⟨j, hj, w⟩ | w
            · exact .inr ⟨i, List.mem_append_right _ hi, w⟩
            · exact .inr ⟨j, List.mem_append_left _ hj, w⟩
            · exact .inl w
theorem sem_lc {wi : TI} {g : TG} {tt : TT} {te : TE} {evw : Env → R (List D × Env)} {bd : D → Env → R Env} {cnd : Env → R (Bool × Env)} {elt : Env → R (D × Env)} {vs : List Nat} {n : Nat} {b : Option Nat}
    (sw : SemW C E wi evw T1 b) (sg : SemG C g bd vs) (sc : SemT C E0 tt cnd T2) (se : SemE C E0 te elt n T3) (hg : ∀ i ∈ vs, C.g i = 0) (hb : ∀ i, b = some i → i ∉ T2 ++ T3) :
    SemE C E (tLc wi g tt te vs) (fun env => (evw env).bind fun p => (lcL (unset vs) bd cnd elt p.1 (unset vs p.2)).bind fun q => if q.1.length ≤ sizeLine then .ok (.lst q.1, reset vs p.2 q.2) else .bad) (n + 1) (T1 ++ (T2 ++ T3)) := fun F H σ env S ri Q post => by
  refine sw F H σ env S ri _ (post.bind.to (fun _ h => List.mem_append_left _ h) fun p _ hp F1 H1 S1 J Zw st1 ri1 wk hzw => ?_)
  exact lc_at sg sc se hg hb st1 ri1 wk hzw Q hp

end
end DL
/-! DL9a: dict comprehensions. -/
namespace DL
open PySem PySem.Spec PyProof.Rows L2

section
variable {C : CC} {E : XK} {T T1 T2 T3 T4 : List Nat} {F H F1 H1 F2 H2 : Hp} {S S1 S2 : Nat → AS}
theorem dcL_cons {un : Env → Env} {bd : D → Env → R Env} {c : Env → R (Bool × Env)} {ek ev : Env → R (D × Env)} {d : D} {ds : List D} {acc : List (Key × D)} {env : Env} {q : List (Key × D) × Env} (h : dcL un bd c ek ev (d :: ds) acc env = .ok q) :
    ∃ env1 b env2, bd d env = .ok env1 ∧ c env1 = .ok (b, env2) ∧ ((b = true ∧ ∃ y env3 z env4 k, ek env2 = .ok (y, env3) ∧ ev env3 = .ok (z, env4) ∧ keyOf y = some k ∧ acc.length < sizeLine ∧ dcL un bd c ek ev ds (putD acc k z) (un env4) = .ok q) ∨ (b = false ∧ dcL un bd c ek ev ds acc (un env2) = .ok q)) := by
  unfold dcL at h
  split at h
  · rename_i env1 h1
    split at h
    · rename_i env2 h2
      split at h
      · rename_i y env3 h3
        split at h
        · rename_i z env4 h4
          split at h
          · rename_i k hk
            split at h
            · rename_i hs
              exact ⟨env1, true, env2, h1, h2, .inl ⟨rfl, y, env3, z, env4, k, h3, h4, hk, hs, h⟩⟩
            · cases h
          · cases h
        · cases h
      · cases h
    · rename_i env2 h2
      exact ⟨env1, false, env2, h1, h2, .inr ⟨rfl, h⟩⟩
    · cases h
  · cases h
theorem dcL_exc {un : Env → Env} {bd : D → Env → R Env} {c : Env → R (Bool × Env)} {ek ev : Env → R (D × Env)} : ∀ {ds : List D} {acc : List (Key × D)} {env : Env} {x : Nat} {d : D}, dcL un bd c ek ev ds acc env ≠ .exc x d
  | [], _, _, _, _ => nofun
  | d :: ds, acc, env, x, y => by
    intro h
    unfold dcL at h
    repeat' split at h
    all_goals first | (cases h; done) | exact dcL_exc h
theorem key_dc {K : PySem.W.Frag} {n : Nat} {y : D} {v : V} {Z : AS} {k : Key} (r : RO K F H n y v Z) (h : keyOf y = some k) : v = kV k := by
  cases y <;> first | (cases h; done) | skip
  · cases h; cases n <;> exact r
  · cases h; cases n <;> exact r
theorem dc_at {g : TG} {tt : TT} {tk tv : TE} {bd : DL.D → Env → R Env} {cnd : Env → R (Bool × Env)} {ek ev : Env → R (DL.D × Env)} {vs : List Nat} {n : Nat} {b : Option Nat}
    (sg : SemG C g bd vs) (sc : SemT C E0 tt cnd T2) (sk : SemE C E0 tk ek n T3) (sv : SemE C E0 tv ev 0 T4) (hg : ∀ i ∈ vs, C.g i = 0) (hb : ∀ i, b = some i → i ∉ T2 ++ (T3 ++ T4))
    {σ : L2.St} {p : List DL.D × Env} {J : It} {Zw : AS} (st1 : Stp T1 F H S F1 H1 S1) (ri1 : RI C.K C.g F1 H1 σ p.2 S1) (wk : Wkd C.K J p.1 F1 H1 Zw) (hzw : ∀ a, Zw a → (∃ o, H1 a = some o) ∧ ∀ i, S1 i a → b = some i) (Q : VK)
    (hp : Post C E (T1 ++ (T2 ++ (T3 ++ T4))) F H S ((dcL (unset vs) bd cnd ek ev p.1 [] (unset vs p.2)).bind fun q => .ok (.dic q.1, reset vs p.2 q.2)) (fun p => ∀ F' H' S' v Z, Stp (T1 ++ (T2 ++ (T3 ++ T4))) F H S F' H' S' → RI C.K C.g F' H' σ p.2 S' → RO C.K F' H' 1 p.1 v Z → Frs (T1 ++ (T2 ++ (T3 ++ T4))) H S H' S' Z → Q v H')) :
    tDc (fun _ H R => R J H) g tt tk tv vs σ H1 Q := fun D hD => by
  obtain ⟨q, hq, hk⟩ := hp.bindo fun _ _ => dcL_exc
  have fresh : ∀ i, ¬ S1 i D := fun i => ri1.new hD
  refine ⟨fun i m H' => m = p.1.length - i ∧ i ≤ p.1.length ∧ ∃ F' env' S' acc dacc, Stp (T2 ++ (T3 ++ T4)) F1 H1 S1 F' H' S' ∧ RI C.K C.g F' H' (wipe σ vs) env' S' ∧ H' D = some (.dK acc) ∧ F' D = none ∧ (∀ i, ¬ S' i D) ∧
      RpK C.K F' dacc acc ∧ dcL (unset vs) bd cnd ek ev (p.1.drop i) dacc env' = .ok q, ⟨p.1.length, ?_⟩, ?_⟩
  · exact ⟨by simp, Nat.zero_le _, F1, unset vs p.2, S1, [], [], (Stp.refl (T := T2 ++ (T3 ++ T4))).updD hD, (ri1.wiped vs).updD fresh (ri1.sub.free hD), upd_same, ri1.sub.free hD, fresh, rfl, hq⟩
  · rintro i m H' ⟨rfl, hi, F', env', S', acc, dacc, st, ri', hDa, hDf, hDS, hrp, hev⟩
    have kp : Kp F1 H1 Zw F' H' := st.kp ri' hzw hb
    by_cases hlt : i < p.1.length
    · refine .inr ⟨wk.goes i F' H' hlt kp, fun H'' => ∃ F' env' S' acc dacc, Stp (T2 ++ (T3 ++ T4)) F1 H1 S1 F' H'' S' ∧ RI C.K C.g F' H'' (wipe σ vs) env' S' ∧ H'' D = some (.dK acc) ∧ F' D = none ∧ (∀ i, ¬ S' i D) ∧
        RpK C.K F' dacc acc ∧ dcL (unset vs) bd cnd ek ev (p.1.drop (i + 1)) dacc env' = .ok q, fun H'' h => ⟨p.1.length - (i + 1), by omega, rfl, hlt, h⟩, fun x Hx hy => ?_⟩
      have hdi : p.1[i]? = some p.1[i] := List.getElem?_eq_getElem hlt
      obtain ⟨Fx, ext, rx⟩ := wk.yld i F' H' x Hx _ hdi kp hy
      rw [List.drop_eq_getElem_cons hlt] at hev
      obtain ⟨env1, bb, env2, e1, e2, hrest⟩ := dcL_cons hev
      have rix := ri'.ext ext
      have stx : Stp (T2 ++ (T3 ++ T4)) F1 H1 S1 Fx Hx S' := (st.trans (T2 := []) ext.stp).weak fun i hi => by simpa using hi
      refine sg Fx Hx (wipe σ vs) env' S' _ x env1 rix rx e1 _ fun σ2 ri2 hl2 hs2 => ?_
      have ew : wipe σ2 vs = wipe σ vs := (wipe_eq hl2 hs2).trans (wipe_wipe σ vs)
      refine ⟨ew, sc Fx Hx σ2 env1 S' ri2 _ ?_⟩
      rw [e2]
      refine fun F3 H3 S3 st3 ri3 => ?_
      have st13 : Stp (T2 ++ (T3 ++ T4)) F1 H1 S1 F3 H3 S3 := (stx.trans st3).weak fun i hi => mem_aba hi
      have hD3 : ∀ {Hn Sn Fn} {T' : List Nat}, Stp T' Fx Hx S' Fn Hn Sn → Hn D = some (.dK acc) ∧ Fn D = none ∧ ∀ i, ¬ Sn i D := fun {Hn Sn Fn T'} s => by
        have hx : Hx D = some (.dK acc) := ext.h D _ hDa
        refine ⟨s.keep D _ hx fun i _ => hDS i, s.keepF D _ hx (ext.n D _ hDa hDf) fun i _ => hDS i, fun i w => ?_⟩
        rcases s.fp i D w with w | ⟨j, _, w⟩ | w
        · exact hDS i w
        · exact hDS j w
        · rw [hx] at w; cases w
      have hrx : RpK C.K Fx dacc acc := RpK.mono ext.f hrp
      rcases hrest with ⟨rfl, y, env3, z, env4, k, e3, e4, ek', hs, e5⟩ | ⟨rfl, e4⟩
      · rw [if_pos rfl]
        refine sk F3 H3 σ2 env2 S3 ri3 _ ?_
        rw [e3]
        refine fun F4 H4 S4 v Zy st4 ri4 ry fy => ?_
        refine sv F4 H4 σ2 env3 S4 ri4 _ ?_
        rw [e4]
        refine fun F5 H5 S5 w Zw' st5 ri5 rz fz => ?_
        have st35 := (st3.trans st4).trans st5
        obtain ⟨d1, d2, d3⟩ := hD3 st35
        have hl : acc.length < sizeLine := by rw [← hrp.length]; exact hs
        refine ⟨acc, k, key_dc (show RO C.K F4 H4 n y v Zy from ry) ek', d1, hl, F5, unset vs env4, S5, L2.putK acc k w, putD dacc k z, ?_, ?_, upd_same, d2, d3, ?_, e5⟩
        · refine ((stx.trans st35).weak fun i hi => ?_).updD hD
          rcases List.mem_append.mp hi with hi | hi
          · exact hi
          rcases List.mem_append.mp hi with hi | hi
          · rcases List.mem_append.mp hi with hi | hi
            · exact List.mem_append_left _ hi
            · exact List.mem_append_right _ (List.mem_append_left _ hi)
          · exact List.mem_append_right _ (List.mem_append_right _ hi)
        · have := (ri5.wiped vs).updD (a := D) (o := .dK (L2.putK acc k w)) d3 d2
          rw [ew] at this
          exact this
        · exact putD_rp (show Rp C.K F5 z w from rz) (RpK.mono st35.mono hrx)
      · rw [if_neg Bool.false_ne_true]
        obtain ⟨d1, d2, d3⟩ := hD3 st3
        refine ⟨F3, unset vs env2, S3, acc, dacc, st13, ?_, d1, d2, d3, RpK.mono st3.mono hrx, e4⟩
        have := ri3.wiped vs
        rw [ew] at this
        exact this
    · have ei : i = p.1.length := by omega
      subst ei
      refine .inl ⟨wk.stops F' H' kp, ?_⟩
      rw [List.drop_length] at hev
      cases hev
      have stt := st1.trans st
      refine hk F' H' S' (.ref D) (fun a => a = D) stt ⟨ri'.sub, fun j d gj => ?_, ri'.dj, ri'.lv, ?_⟩ ?_ fun a ha => ?_
      · rcases reset_gt gj with ⟨h1, h2⟩ | ⟨h1, h2⟩
        · obtain ⟨v, e, r⟩ := ri1.cell j d h2
          rw [hg j h1] at r ⊢
          exact ⟨v, e, Rp.mono st.mono r⟩
        · obtain ⟨v, e, r⟩ := ri'.cell j d h2
          rw [wipe_get, if_neg h1] at e
          exact ⟨v, e, r⟩
      · have := ri'.len
        rw [wipe_length] at this
        rw [reset_len]
        exact this
      · refine ⟨D, acc, fun _ => noA, rfl, hDa, hDf, rfl, hrp.length, fun j b z => z.elim, fun i j b z => z.elim, fun i p q h1 h2 => RpK.get hrp h1 h2⟩
      · subst ha
        exact ⟨⟨_, hDa⟩, .inl (none_of st1.there hD), hDS⟩
theorem sem_dc {wi : TI} {g : TG} {tt : TT} {tk tv : TE} {evw : Env → R (List D × Env)} {bd : D → Env → R Env} {cnd : Env → R (Bool × Env)} {ek ev : Env → R (D × Env)} {vs : List Nat} {n : Nat} {b : Option Nat}
    (sw : SemW C E wi evw T1 b) (sg : SemG C g bd vs) (sc : SemT C E0 tt cnd T2) (sk : SemE C E0 tk ek n T3) (sv : SemE C E0 tv ev 0 T4) (hg : ∀ i ∈ vs, C.g i = 0) (hb : ∀ i, b = some i → i ∉ T2 ++ (T3 ++ T4)) :
    SemE C E (tDc wi g tt tk tv vs) (fun env => (evw env).bind fun p => (dcL (unset vs) bd cnd ek ev p.1 [] (unset vs p.2)).bind fun q => .ok (.dic q.1, reset vs p.2 q.2)) 1 (T1 ++ (T2 ++ (T3 ++ T4))) := fun F H σ env S ri Q post => by
  refine sw F H σ env S ri _ (post.bind.to (fun _ h => List.mem_append_left _ h) fun p _ hp F1 H1 S1 J Zw st1 ri1 wk hzw => ?_)
  exact dc_at sg sc sk sv hg hb st1 ri1 wk hzw Q hp
/-- name = {..} on one line, the name a local -/
theorem ps_setDc {X : Cx} {i : Nat} {y : Str} {py : Pos} {kx vx tg iter : Expr} {ifs : List Expr} {scope : Scope} {own : List (Str × Nat)} {pos spos : Pos} {wi : TI} {g : TG} {tt : TT} {tk tv : TE}
    (ca : X.calm = true) (nd : X.N.Nodup) (hy : X.N[i]? = some y) (hl : X.env.scope.names.lookup y = some .local)
    (sw : swapsWith (.DictComp kx vx [⟨tg, iter, ifs, 0⟩] scope pos) (some (.Name y py)) spos.line X.env = pure true) (pi : PI X tg iter wi) (bo : BlkOk X.N X.env.scope scope own)
    (pg : ∀ (s : Shared) (H : Hp) (c : Addr) (l : List (Str × Addr)) (q : List Addr), PG (X.blk s H scope (compEnvC scope l c X.env) q) tg g)
    (pt : ∀ (s : Shared) (H : Hp) (c : Addr) (l : List (Str × Addr)) (q : List Addr), PTs (X.blk s H scope (compEnvC scope l c X.env) q) ifs tt)
    (pk : ∀ (s : Shared) (H : Hp) (c : Addr) (l : List (Str × Addr)) (q : List Addr), PE (X.blk s H scope (compEnvC scope l c X.env) q) kx tk)
    (pv : ∀ (s : Shared) (H : Hp) (c : Addr) (l : List (Str × Addr)) (q : List Addr), PE (X.blk s H scope (compEnvC scope l c X.env) q) vx tv)
    (ns : ∀ x, foldedSetIterable iter X.env x = pure x) :
    PS X (.Assign [.Name y py] (.DictComp kx vx [⟨tg, iter, ifs, 0⟩] scope pos) spos) (tAsg (tDc wi g tt tk tv (own.map (·.2))) (gName i)) := by
  refine ⟨fun pins s σ H D I hh => ?_⟩
  rw [exec_Assign_Name_used _ _ _ _ sw]; refine wpAny_bind (wpAny_standAt (wpAny_bind ?_))
  show wpAny _ X.A (do let _ ← comprehension (.DictComp kx vx [⟨tg, iter, ifs, 0⟩] scope pos) scope X.env (firstIterPos [⟨tg, iter, ifs, 0⟩] pos) newDict false (eval iter X.env) (some (assign (.Name y py) X.env))) _ _ s
  have h2 : tDc wi g tt tk tv (own.map (·.2)) σ H (fun x H1 => gName i x σ H1 D.nx) := hh
  refine wpAny_bind (thn (dc_core (Qf := fun _ t => SP X pins D .next t) ca nd I pi bo pg pt pk pv ns h2 fun L c t m H' I' q nm f => ?_) fun _ t hq => wpAny_pure (wpAny_pure hq))
  show wpAny _ _ (assign (Expr.Name y py) X.env (Value.ref L)) _ _ _
  refine wpAny_assign_Name (store_ok2 (v := V.ref L) I' nd hy (.inl hl) rfl (fun t2 I2 ⟨a, sb, ha⟩ => ?_) (.inr hl))
  obtain ⟨g0, g1, g2, g3, g4, g5⟩ := f
  have ne : c ≠ a := by
    rcases ha with z | z
    · rw [z]; exact g1
    · intro e; exact g4 y a z e.symm
  refine ⟨m, nm.sameBut sb ne, fun h3 sb3 => ?_⟩
  refine ⟨_, H', I2.turned (t' := t2.toks) (fun b o hb e => (sb3.2 b hb).trans e) g0 g1 g3 g4 g5, ?_⟩
  exact q
end
end DL
/-! DLA: what a slot owns is changed in place. -/
namespace DL
open PySem PySem.Spec PyProof.Rows L2

section
variable {C : CC} {E : XK} {T T1 T2 T3 : List Nat} {F H F1 H1 F2 H2 F0 H0 : Hp} {S S0 S1 S2 : Nat → AS} {K : PySem.W.Frag} {G : Nat → Nat}
theorem RI.mut {σ : L2.St} {env : Env} {x : Nat} {v : V} {a : Addr} {o' : HO} {d' : D} {W Zn : AS} (ri : RI K G F H σ env S) (hx : σ[x]? = some (some v)) (ha : S x a) (fa : F a = none) (hnew : RO K F (upd H a o') (G x) d' v W) (hW : ∀ b, W b → S x b ∨ Zn b)
    (hzn : ∀ b, Zn b → (∃ o, H b = some o) ∧ ∀ j, ¬ S j b) : RI K G F (upd H a o') σ (env.set x (some d')) (updS S x W) := by
  have lift : ∀ b o, H b = some o → ∃ o'', upd H a o' b = some o'' := fun b o e => by
    by_cases c : b = a
    · subst c; exact ⟨_, upd_same⟩
    · exact ⟨o, by rw [upd_ne c]; exact e⟩
  refine ⟨fun b o e => ?_, fun j d g => ?_, fun j l b p q => ?_, fun j b p => ?_, by rw [List.length_set]; exact ri.len⟩
  · have : b ≠ a := fun q => by subst q; rw [fa] at e; cases e
    rw [upd_ne this]; exact ri.sub b o e
  · by_cases h : x = j
    · subst h
      have := gt_set_self g
      cases this
      exact ⟨v, hx, by rw [updS_same]; exact hnew⟩
    · rw [gt_set_ne h] at g
      obtain ⟨w, e, q⟩ := ri.cell j d g
      refine ⟨w, e, ?_⟩
      rw [updS_ne (Ne.symm h)]
      exact q.updD fun z => h (ri.dj x j a ha z)
  · have s1 : ∀ j, updS S x W j b → S j b ∨ (j = x ∧ Zn b) := fun j p => by
      by_cases hj : j = x
      · subst hj; rw [updS_same] at p; exact (hW b p).imp id fun z => ⟨rfl, z⟩
      · rw [updS_ne hj] at p; exact .inl p
    rcases s1 j p with p1 | ⟨e1, p1⟩
    · rcases s1 l q with q1 | ⟨e2, q1⟩
      · exact ri.dj j l b p1 q1
      · exact absurd p1 ((hzn b q1).2 j)
    · rcases s1 l q with q1 | ⟨e2, q1⟩
      · exact absurd q1 ((hzn b p1).2 l)
      · rw [e1, e2]
  · by_cases hj : j = x
    · subst hj
      rw [updS_same] at p
      rcases hW b p with p | p
      · obtain ⟨o, e⟩ := ri.lv j b p; exact lift b o e
      · obtain ⟨o, e⟩ := (hzn b p).1; exact lift b o e
    · rw [updS_ne hj] at p
      obtain ⟨o, e⟩ := ri.lv j b p; exact lift b o e
theorem Stp.mut {x : Nat} {a : Addr} {o' : HO} {W Zn : AS} (st : Stp T F0 H0 S0 F H S) (hx : x ∈ T) (ha : S x a) (hW : ∀ b, W b → S x b ∨ Zn b) (hzn : ∀ b, Zn b → H0 b = none ∨ ∃ i ∈ T, S0 i b) : Stp T F0 H0 S0 F (upd H a o') (updS S x W) := by
  refine ⟨st.mono, fun b o e => ?_, fun b o e n => ?_, st.keepF, fun j b p => ?_, fun j hj => ?_⟩
  · obtain ⟨o1, e1⟩ := st.there b o e
    by_cases c : b = a
    · subst c; exact ⟨_, upd_same⟩
    · exact ⟨o1, by rw [upd_ne c]; exact e1⟩
  · have : b ≠ a := fun q => by
      subst q
      rcases st.fp x b ha with w | ⟨j, hj, w⟩ | w
      · exact n x hx w
      · exact n j hj w
      · rw [e] at w; cases w
    rw [upd_ne this]; exact st.keep b o e n
  · by_cases hj : j = x
    · subst hj
      rw [updS_same] at p
      rcases hW b p with p | p
      · exact st.fp j b p
      · rcases hzn b p with p | p
        · exact .inr (.inr p)
        · exact .inr (.inl p)
    · rw [updS_ne hj] at p; exact st.fp j b p
  · have : j ≠ x := fun e => hj (by rw [e]; exact hx)
    rw [updS_ne this]; exact st.same j hj

/-! ### a list, a dict changed -/
theorem RO.setL {m : Nat} {ds : List D} {b : Addr} {xs : List V} {Z Zn : AS} {dv : D} {vv : V} {j : Nat} (r : RO K F H (m + 1) (.lst ds) (.ref b) Z) (hb : H b = some (.lst xs)) (rv : RO K F H m dv vv Zn) (hz : ∀ c, Zn c → ¬ Z c) : RO K F (upd H b (.lst (xs.set j vv))) (m + 1) (.lst (ds.set j dv)) (.ref b) (fun c => Z c ∨ Zn c) := by
  obtain ⟨a, ys, T, e, ea, fa, sa, hl, ht, hd, q⟩ := r
  cases e
  rw [hb] at ea
  cases ea
  have nb : ¬ Zn b := fun w => hz b w sa
  have tb : ∀ i, ¬ T i b := fun i w => (ht i b w).2 rfl
  refine ⟨b, _, fun i => if i = j then Zn else T i, rfl, upd_same, fa, .inl sa, by rw [List.length_set, List.length_set]; exact hl, fun i c w => ?_, fun i l c w w' => ?_, fun i d v h1 h2 => ?_⟩
  · by_cases c1 : i = j
    · simp only [if_pos c1] at w; exact ⟨.inr w, fun e => nb (by rw [← e]; exact w)⟩
    · simp only [if_neg c1] at w; exact ⟨.inl (ht i c w).1, (ht i c w).2⟩
  · by_cases c1 : i = j <;> by_cases c2 : l = j
    · omega
    · simp only [if_pos c1] at w; simp only [if_neg c2] at w'; exact absurd (ht l c w').1 (hz c w)
    · simp only [if_neg c1] at w; simp only [if_pos c2] at w'; exact absurd (ht i c w).1 (hz c w')
    · simp only [if_neg c1] at w; simp only [if_neg c2] at w'; exact hd i l c w w'
  · by_cases c1 : i = j
    · subst c1
      simp only [if_true]
      obtain ⟨g1, e1⟩ := List.getElem?_eq_some_iff.mp h1
      obtain ⟨g2, e2⟩ := List.getElem?_eq_some_iff.mp h2
      rw [List.getElem_set_self] at e1 e2
      subst e1 e2
      exact rv.updD nb
    · simp only [if_neg c1]
      rw [List.getElem?_set_ne (Ne.symm c1)] at h1 h2
      exact (q i d v h1 h2).updD (tb i)
theorem RO.appL {m : Nat} {ds : List D} {b : Addr} {xs : List V} {Z Zn : AS} {dv : D} {vv : V} (r : RO K F H (m + 1) (.lst ds) (.ref b) Z) (hb : H b = some (.lst xs)) (rv : RO K F H m dv vv Zn) (hz : ∀ c, Zn c → ¬ Z c) : RO K F (upd H b (.lst (xs ++ [vv]))) (m + 1) (.lst (ds ++ [dv])) (.ref b) (fun c => Z c ∨ Zn c) := by
  obtain ⟨a, ys, T, e, ea, fa, sa, hl, ht, hd, q⟩ := r
  cases e
  rw [hb] at ea
  cases ea
  have nb : ¬ Zn b := fun w => hz b w sa
  have tb : ∀ i, ¬ T i b := fun i w => (ht i b w).2 rfl
  refine ⟨b, _, fun i => if i = xs.length then Zn else if i < xs.length then T i else noA, rfl, upd_same, fa, .inl sa, by simp [hl], fun i c w => ?_, fun i l c w w' => ?_, fun i d v h1 h2 => ?_⟩
  · by_cases c1 : i = xs.length
    · simp only [if_pos c1] at w; exact ⟨.inr w, fun e => nb (by rw [← e]; exact w)⟩
    · simp only [if_neg c1] at w
      by_cases c2 : i < xs.length
      · simp only [if_pos c2] at w; exact ⟨.inl (ht i c w).1, (ht i c w).2⟩
      · simp only [if_neg c2] at w; exact w.elim
  · have cs : ∀ i, (if i = xs.length then Zn else if i < xs.length then T i else noA) c → (i = xs.length ∧ Zn c) ∨ T i c := fun i w => by
      by_cases c1 : i = xs.length
      · simp only [if_pos c1] at w; exact .inl ⟨c1, w⟩
      · simp only [if_neg c1] at w
        by_cases c2 : i < xs.length
        · simp only [if_pos c2] at w; exact .inr w
        · simp only [if_neg c2] at w; exact w.elim
    rcases cs i w with ⟨e1, w⟩ | w <;> rcases cs l w' with ⟨e2, w'⟩ | w'
    · omega
    · exact absurd (ht l c w').1 (hz c w)
    · exact absurd (ht i c w).1 (hz c w')
    · exact hd i l c w w'
  · by_cases c1 : i = xs.length
    · subst c1
      simp only [if_true]
      rw [List.getElem?_append_right (by omega), hl, Nat.sub_self] at h1
      rw [List.getElem?_append_right (Nat.le_refl _), Nat.sub_self] at h2
      simp at h1 h2
      subst h1 h2
      exact rv.updD nb
    · have hi : i < xs.length := by
        obtain ⟨g, _⟩ := List.getElem?_eq_some_iff.mp h2
        simp at g; omega
      simp only [if_neg c1, if_pos hi]
      rw [List.getElem?_append_left (by omega)] at h1
      rw [List.getElem?_append_left hi] at h2
      exact (q i d v h1 h2).updD (tb i)
/-- an item taken out: it, and the rest, apart -/
theorem RO.eraL {m : Nat} {ds : List D} {b : Addr} {xs : List V} {Z : AS} {j : Nat} {y : V} {dy : D} (r : RO K F H (m + 1) (.lst ds) (.ref b) Z) (hb : H b = some (.lst xs)) (hj : xs[j]? = some y) (hdj : ds[j]? = some dy) :
    ∃ P W : AS, RO K F (upd H b (.lst (xs.eraseIdx j))) (m + 1) (.lst (ds.eraseIdx j)) (.ref b) W ∧ RO K F (upd H b (.lst (xs.eraseIdx j))) m dy y P ∧ (∀ c, W c → Z c) ∧ (∀ c, P c → Z c) ∧ ∀ c, P c → ¬ W c := by
  obtain ⟨a, ys, T, e, ea, fa, sa, hl, ht, hd, q⟩ := r
  cases e
  rw [hb] at ea
  cases ea
  have tb : ∀ i, ¬ T i b := fun i w => (ht i b w).2 rfl
  refine ⟨T j, fun c => Z c ∧ ¬ T j c, ⟨b, _, fun i => if i < j then T i else T (i + 1), rfl, upd_same, fa, ⟨sa, tb j⟩, ?_, fun i c w => ?_, fun i l c w w' => ?_, fun i d v h1 h2 => ?_⟩, (q j dy y hdj hj).updD (tb j), fun c w => w.1, fun c w => (ht j c w).1, fun c w w' => w'.2 w⟩
  · rw [List.length_eraseIdx, List.length_eraseIdx, hl]
  · by_cases c1 : i < j
    · simp only [if_pos c1] at w
      exact ⟨⟨(ht i c w).1, fun w' => by have := hd i j c w w'; omega⟩, (ht i c w).2⟩
    · simp only [if_neg c1] at w
      exact ⟨⟨(ht _ c w).1, fun w' => by have := hd _ j c w w'; omega⟩, (ht _ c w).2⟩
  · by_cases c1 : i < j <;> by_cases c2 : l < j
    · simp only [if_pos c1] at w; simp only [if_pos c2] at w'; exact hd i l c w w'
    · simp only [if_pos c1] at w; simp only [if_neg c2] at w'; have := hd _ _ c w w'; omega
    · simp only [if_neg c1] at w; simp only [if_pos c2] at w'; have := hd _ _ c w w'; omega
    · simp only [if_neg c1] at w; simp only [if_neg c2] at w'; have := hd _ _ c w w'; omega
  · rw [List.getElem?_eraseIdx] at h1 h2
    by_cases c1 : i < j
    · rw [if_pos c1] at h1 h2
      simp only [if_pos c1]
      exact (q i d v h1 h2).updD (tb i)
    · rw [if_neg c1] at h1 h2
      simp only [if_neg c1]
      exact (q (i + 1) d v h1 h2).updD (tb _)
theorem RO.putK {ds : List (Key × D)} {b : Addr} {xs : List (Key × V)} {Z : AS} {dv : D} {vv : V} {k : Key} (r : RO K F H 1 (.dic ds) (.ref b) Z) (hb : H b = some (.dK xs)) (rv : Rp K F dv vv) : RO K F (upd H b (.dK (L2.putK xs k vv))) 1 (.dic (putD ds k dv)) (.ref b) Z := by
  obtain ⟨a, ys, T, e, ea, fa, sa, hl, ht, hd, q⟩ := r
  cases e
  rw [hb] at ea
  cases ea
  have rr : RpK K F ds xs := RpK.of hl q
  have rn := putD_rp (k := k) rv rr
  exact ⟨b, _, fun _ => noA, rfl, upd_same, fa, sa, rn.length, fun _ _ w => w.elim, fun _ _ _ w => w.elim, fun i p q h1 h2 => rn.get h1 h2⟩

/-! ### paths: the slot itself, or a part of it -/
def Reach (H : Hp) (v0 : V) (k : D) (vc : V) : Prop :=
  (∃ a xs i, v0 = .ref a ∧ H a = some (.lst xs) ∧ k = .int i ∧ atI xs i = some vc) ∨ (∃ a kvs k', v0 = .ref a ∧ H a = some (.dK kvs) ∧ keyOf k = some k' ∧ valV kvs k' = some vc)
def PthV (σ : L2.St) (H : Hp) (x : Nat) (p : List D) (vc : V) : Prop :=
  match p with
  | [] => σ[x]? = some (some vc)
  | [k] => ∃ v0, σ[x]? = some (some v0) ∧ Reach H v0 k vc
  | _ => False
theorem firstAt_keys {κ : Type} [DecidableEq κ] {k : κ} {P : Nat → D → V → Prop} : ∀ {ds : List (κ × D)} {xs : List (κ × V)}, ds.length = xs.length → (∀ (i : Nat) (p : κ × D) (q : κ × V), ds[i]? = some p → xs[i]? = some q → p.1 = q.1 ∧ P i p.2 q.2) →
    ∀ {j : Nat}, firstAt (fun kv => decide (kv.1 = k)) ds = some j → ∃ v, xs[j]? = some (k, v) ∧ valV xs k = some v
  | [], _, _, _, j, h => by cases h
  | _ :: _, [], h, _, _, _ => by simp at h
  | (a, d) :: ds, (b, v) :: xs, h, g, j, hj => by
    obtain ⟨e, p⟩ := g 0 _ _ rfl rfl
    have e : a = b := e
    subst e
    unfold firstAt at hj
    by_cases c : a = k
    · rw [if_pos (by simpa using c)] at hj
      cases hj
      exact ⟨v, by rw [c]; rfl, by simp [valV, List.find?_cons, c]⟩
    · rw [if_neg (by simpa using c)] at hj
      obtain ⟨i, hi, rfl⟩ := Option.map_eq_some_iff.mp hj
      obtain ⟨w, h1, h2⟩ := firstAt_keys (P := fun i => P (i + 1)) (ds := ds) (xs := xs) (by simpa using h) (fun i p q h1 h2 => g (i + 1) p q (by simpa using h1) (by simpa using h2)) hi
      exact ⟨w, by simpa using h1, by rw [show valV ((a, v) :: xs) k = valV xs k by simp [valV, List.find?_cons, c]]; exact h2⟩
/-- the part at a path, and what becomes of the whole when it is changed -/
theorem RO.part {m : Nat} {p : List D} {d dc : D} {v vc : V} {Z : AS} {σ : L2.St} {x : Nat} (r : RO K F H (p.length + m) d v Z) (hx : σ[x]? = some (some v)) (hp : PthV σ H x p vc) (hc : atPath d p = some dc) :
    ∃ Tc : AS, RO K F H m dc vc Tc ∧ (∀ c, Tc c → Z c) ∧ ∀ (b : Addr) (o' : HO) (dc' : D) (Tc' Zn : AS), Tc b → RO K F (upd H b o') m dc' vc Tc' → (∀ c, Tc' c → Tc c ∨ Zn c) → (∀ c, Zn c → ¬ Z c) → ∀ d', onPath (fun _ => some dc') d p = some d' →
      RO K F (upd H b o') (p.length + m) d' v (fun c => (Z c ∧ ¬ Tc c) ∨ Tc' c) := by
  match p, hp with
  | [], hp =>
    have e1 : σ[x]? = some (some vc) := hp
    rw [hx] at e1
    cases e1
    have e2 : some d = some dc := by cases d <;> exact hc
    cases e2
    simp only [List.length_nil, Nat.zero_add] at r ⊢
    refine ⟨Z, r, fun _ h => h, fun b o' dc' Tc' Zn tb r' ht hz d' hd => ?_⟩
    have e3 : some dc' = some d' := by cases d <;> exact hd
    cases e3
    exact r'.wide fun c w => .inr w
  | [k], hp =>
    obtain ⟨v0, e1, hr⟩ := hp
    rw [hx] at e1
    cases e1
    rw [show [k].length + m = m + 1 by simp [Nat.add_comm]] at r ⊢
    rcases hr with ⟨a, xs, i, rfl, ea, rfl, hv⟩ | ⟨a, kvs, k', rfl, ea, hk, hv⟩
    · obtain ⟨ds, rfl⟩ : ∃ ds, d = .lst ds := by
        cases d
        case lst ds => exact ⟨ds, rfl⟩
        case dic ds => obtain ⟨a', ys, T, e, ea', _⟩ := r; cases e; rw [ea] at ea'; cases ea'
        all_goals simp [atPath] at hc
      obtain ⟨a', ys, T, e, ea', fa, sa, hl, ht, hd, q⟩ := r
      cases e
      rw [ea] at ea'
      cases ea'
      have hc : ((atI ds i).bind fun d => atPath d []) = some dc := hc
      obtain ⟨d1, h1, h2⟩ := Option.bind_eq_some_iff.mp hc
      have : some d1 = some dc := by cases d1 <;> exact h2
      cases this
      unfold atI at h1 hv
      rw [← hl] at hv
      obtain ⟨j, hj, h1⟩ := Option.bind_eq_some_iff.mp h1
      rw [hj] at hv
      have hv : xs[j]? = some vc := hv
      have ta : ∀ i, ¬ T i a := fun i w => (ht i a w).2 rfl
      refine ⟨T j, q j dc vc h1 hv, fun c w => (ht j c w).1, fun b o' dc' Tc' Zn tb r' hT hz d' hd' => ?_⟩
      have ba : b ≠ a := fun e => ta j (by rw [← e]; exact tb)
      have hd' : ((ixN ds.length i).bind fun j => (ds[j]?).bind fun d => (onPath (fun _ => some dc') d []).bind fun d' => some (D.lst (ds.set j d'))) = some d' := hd'
      rw [hj] at hd'
      simp only [Option.bind_some] at hd'
      rw [h1] at hd'
      simp only [Option.bind_some] at hd'
      have e5 : onPath (fun _ => some dc') dc [] = some dc' := by cases dc <;> rfl
      rw [e5] at hd'
      cases hd'
      have out : ∀ i c, T i c → i ≠ j → ¬ Tc' c := fun i c w ne w' => (hT c w').elim (fun w2 => ne (hd i j c w w2)) fun w2 => hz c w2 (ht i c w).1
      refine ⟨a, xs, fun i => if i = j then Tc' else T i, rfl, by rw [upd_ne (Ne.symm ba)]; exact ea, fa, .inl ⟨sa, ta j⟩, by rw [List.length_set]; exact hl, fun i c w => ?_, fun i l c w w' => ?_, fun i d v h1' h2' => ?_⟩
      · by_cases c1 : i = j
        · simp only [if_pos c1] at w
          exact ⟨.inr w, fun e => (hT c w).elim (fun w2 => ta j (by rw [← e]; exact w2)) fun w2 => hz c w2 (by rw [e]; exact sa)⟩
        · simp only [if_neg c1] at w
          exact ⟨.inl ⟨(ht i c w).1, fun w2 => c1 (hd i j c w w2)⟩, (ht i c w).2⟩
      · by_cases c1 : i = j <;> by_cases c2 : l = j
        · omega
        · simp only [if_pos c1] at w; simp only [if_neg c2] at w'; exact absurd w (out l c w' c2)
        · simp only [if_neg c1] at w; simp only [if_pos c2] at w'; exact absurd w' (out i c w c1)
        · simp only [if_neg c1] at w; simp only [if_neg c2] at w'; exact hd i l c w w'
      · by_cases c1 : i = j
        · subst c1
          simp only [if_true]
          obtain ⟨g1, e1⟩ := List.getElem?_eq_some_iff.mp h1'
          rw [List.getElem_set_self] at e1
          subst e1
          rw [hv] at h2'
          cases h2'
          exact r'
        · simp only [if_neg c1]
          rw [List.getElem?_set_ne (Ne.symm c1)] at h1'
          exact (q i d v h1' h2').updD fun w => c1 (hd i j b w tb)
    · obtain ⟨ds, rfl⟩ : ∃ ds, d = .dic ds := by
        cases d
        case dic ds => exact ⟨ds, rfl⟩
        case lst ds => obtain ⟨a', ys, T, e, ea', _⟩ := r; cases e; rw [ea] at ea'; cases ea'
        all_goals simp [atPath] at hc
      obtain ⟨a', ys, T, e, ea', fa, sa, hl, ht, hd, q⟩ := r
      cases e
      rw [ea] at ea'
      cases ea'
      have hc : ((keyOf k).bind fun k => (firstAt (fun kv => decide (kv.1 = k)) ds).bind fun j => (ds[j]?).bind fun kv => atPath kv.2 []) = some dc := by cases k <;> exact hc
      rw [hk] at hc
      simp only [Option.bind_some] at hc
      obtain ⟨j, hj, hc⟩ := Option.bind_eq_some_iff.mp hc
      obtain ⟨kv, h1, h2⟩ := Option.bind_eq_some_iff.mp hc
      have e2 : some kv.2 = some dc := by cases h : kv.2 <;> rw [h] at h2 <;> exact h2
      obtain ⟨vj, g1, g2⟩ := firstAt_keys (P := fun i d v => RO K F H m d v (T i)) hl q hj
      rw [hv] at g2
      cases g2
      obtain ⟨k1, r1⟩ := q j kv (k', vc) h1 g1
      have e2 : kv.2 = dc := Option.some.inj e2
      have ta : ∀ i, ¬ T i a := fun i w => (ht i a w).2 rfl
      refine ⟨T j, by rw [← e2]; exact r1, fun c w => (ht j c w).1, fun b o' dc' Tc' Zn tb r' hT hz d' hd' => ?_⟩
      have ba : b ≠ a := fun e => ta j (by rw [← e]; exact tb)
      have hd' : ((keyOf k).bind fun k => (firstAt (fun kv => decide (kv.1 = k)) ds).bind fun j => (ds[j]?).bind fun kv => (onPath (fun _ => some dc') kv.2 []).bind fun d' => some (D.dic (ds.set j (kv.1, d')))) = some d' := by cases k <;> exact hd'
      rw [hk] at hd'
      simp only [Option.bind_some] at hd'
      rw [hj] at hd'
      simp only [Option.bind_some] at hd'
      rw [h1] at hd'
      simp only [Option.bind_some] at hd'
      have e5 : onPath (fun _ => some dc') kv.2 [] = some dc' := by cases kv.2 <;> rfl
      rw [e5] at hd'
      cases hd'
      have out : ∀ i c, T i c → i ≠ j → ¬ Tc' c := fun i c w ne w' => (hT c w').elim (fun w2 => ne (hd i j c w w2)) fun w2 => hz c w2 (ht i c w).1
      refine ⟨a, kvs, fun i => if i = j then Tc' else T i, rfl, by rw [upd_ne (Ne.symm ba)]; exact ea, fa, .inl ⟨sa, ta j⟩, by rw [List.length_set]; exact hl, fun i c w => ?_, fun i l c w w' => ?_, fun i d v h1' h2' => ?_⟩
      · by_cases c1 : i = j
        · simp only [if_pos c1] at w
          exact ⟨.inr w, fun e => (hT c w).elim (fun w2 => ta j (by rw [← e]; exact w2)) fun w2 => hz c w2 (by rw [e]; exact sa)⟩
        · simp only [if_neg c1] at w
          exact ⟨.inl ⟨(ht i c w).1, fun w2 => c1 (hd i j c w w2)⟩, (ht i c w).2⟩
      · by_cases c1 : i = j <;> by_cases c2 : l = j
        · omega
        · simp only [if_pos c1] at w; simp only [if_neg c2] at w'; exact absurd w (out l c w' c2)
        · simp only [if_neg c1] at w; simp only [if_pos c2] at w'; exact absurd w' (out i c w c1)
        · simp only [if_neg c1] at w; simp only [if_neg c2] at w'; exact hd i l c w w'
      · by_cases c1 : i = j
        · subst c1
          simp only [if_true]
          obtain ⟨g1', e1⟩ := List.getElem?_eq_some_iff.mp h1'
          rw [List.getElem_set_self] at e1
          subst e1
          rw [g1] at h2'
          cases h2'
          exact ⟨k1, r'⟩
        · simp only [if_neg c1]
          rw [List.getElem?_set_ne (Ne.symm c1)] at h1'
          obtain ⟨k2, r2⟩ := q i d v h1' h2'
          exact ⟨k2, r2.updD fun w => c1 (hd i j b w tb)⟩
end
end DL
/-! DLB: statements. -/
namespace DL
open PySem PySem.Spec PyProof.Rows L2

section
variable {C : CC} {E : XK} {T T1 T2 T3 : List Nat} {F H F1 H1 F2 H2 F0 H0 : Hp} {S S0 S1 S2 : Nat → AS} {K : PySem.W.Frag} {G : Nat → Nat} {n : Nat}
/-- what is wanted behind a block; n: the depth of an answer -/
def PostF (C : CC) (n : Nat) (T : List Nat) (F H : Hp) (S : Nat → AS) (σ : L2.St) (D : Ends) : Fl → Prop
  | .nx env => ∀ F' H' S' σ', Stp T F H S F' H' S' → RI C.K C.g F' H' σ' env S' → (∀ i ∈ C.io, σ'[i]? = σ[i]?) → D.nx σ' H'
  | .bk env => ∀ F' H' S' σ', Stp T F H S F' H' S' → RI C.K C.g F' H' σ' env S' → (∀ i ∈ C.io, σ'[i]? = σ[i]?) → D.bk σ' H'
  | .ct env => ∀ F' H' S' σ', Stp T F H S F' H' S' → RI C.K C.g F' H' σ' env S' → (∀ i ∈ C.io, σ'[i]? = σ[i]?) → D.ct σ' H'
  | .rt d env => ∀ F' H' S' σ' v Z, Stp T F H S F' H' S' → RI C.K C.g F' H' σ' env S' → (∀ i ∈ C.io, σ'[i]? = σ[i]?) → RO C.K F' H' n d v Z → Frs T H S H' S' Z → D.rt v H'
def SemS (C : CC) (E : XK) (n : Nat) (t : TS) (ev : Env → R Fl) (T : List Nat) : Prop :=
  ∀ F H σ env S, RI C.K C.g F H σ env S → ∀ D : Ends, Post C E T F H S (ev env) (PostF C n T F H S σ D) → t D σ H
theorem PostF.weak {σ : L2.St} {D : Ends} {f : Fl} (h : PostF C n T F H S σ D f) (hT : ∀ i ∈ T1, i ∈ T) : PostF C n T1 F H S σ D f := by
  cases f with
  | nx e => exact fun F' H' S' σ' st => h F' H' S' σ' (st.weak hT)
  | bk e => exact fun F' H' S' σ' st => h F' H' S' σ' (st.weak hT)
  | ct e => exact fun F' H' S' σ' st => h F' H' S' σ' (st.weak hT)
  | rt d e => exact fun F' H' S' σ' v Z st r i ro fr => h F' H' S' σ' v Z (st.weak hT) r i ro (fr.weak hT)
theorem PostF.step {σ σ1 : L2.St} {D : Ends} {f : Fl} (h : PostF C n T F H S σ D f) (st : Stp T1 F H S F1 H1 S1) (hio : ∀ i ∈ C.io, σ1[i]? = σ[i]?) (hT : ∀ i ∈ T1, i ∈ T) (hT2 : ∀ i ∈ T2, i ∈ T) : PostF C n T2 F1 H1 S1 σ1 D f := by
  have w : ∀ i ∈ T1 ++ T2, i ∈ T := fun i hi => (List.mem_append.mp hi).elim (hT i) (hT2 i)
  cases f with
  | nx e => exact fun F' H' S' σ' s r i => h F' H' S' σ' ((st.trans s).weak w) r fun j hj => (i j hj).trans (hio j hj)
  | bk e => exact fun F' H' S' σ' s r i => h F' H' S' σ' ((st.trans s).weak w) r fun j hj => (i j hj).trans (hio j hj)
  | ct e => exact fun F' H' S' σ' s r i => h F' H' S' σ' ((st.trans s).weak w) r fun j hj => (i j hj).trans (hio j hj)
  | rt d e => exact fun F' H' S' σ' v Z s r i ro fr => h F' H' S' σ' v Z ((st.trans s).weak w) r (fun j hj => (i j hj).trans (hio j hj)) ro ((fr.back st).weak w)

/-! ### blocks, the plain statements -/
theorem sem_snil : SemS C E n tNext (fun env => .ok (.nx env)) T := fun F H σ env S ri D post => post F H S σ Stp.refl ri fun _ _ => rfl
theorem sem_scons {t u : TS} {ea eb : Env → R Fl} (sa : SemS C E n t ea T1) (sb : SemS C E n u eb T2) : SemS C E n (tSeq t u) (fun env => (ea env).bind fun f => match f with
    | .nx e => eb e
    | .rt d e => .ok (.rt d e)
    | .bk e => .ok (.bk e)
    | .ct e => .ok (.ct e)) (T1 ++ T2) := fun F H σ env S ri D post => by
  refine sa F H σ env S ri { D with nx := u D } (post.bind.to (fun _ h => List.mem_append_left _ h) fun f _ hf => ?_)
  cases f with
  | nx e =>
    exact fun F1 H1 S1 σ1 st1 ri1 io1 => sb F1 H1 σ1 e S1 ri1 D (hf.step st1 (fun _ h => List.mem_append_left _ h) (fun _ h => List.mem_append_right _ h) fun f _ hf => hf.step st1 io1 (fun _ h => List.mem_append_left _ h) (fun _ h => List.mem_append_right _ h))
  | bk e => exact fun F' H' S' σ' st => hf F' H' S' σ' (st.weak fun _ h => List.mem_append_left _ h)
  | ct e => exact fun F' H' S' σ' st => hf F' H' S' σ' (st.weak fun _ h => List.mem_append_left _ h)
  | rt d e => exact fun F' H' S' σ' v Z st r i ro fr => hf F' H' S' σ' v Z (st.weak fun _ h => List.mem_append_left _ h) r i ro (fr.weak fun _ h => List.mem_append_left _ h)
theorem sem_kill {i : Nat} {t : TS} {ev : Env → R Fl} (sa : SemS C E n t ev T) : SemS C E n t (fun env => (R.ok (Fl.nx (env.set i none))).bind fun f => match f with
    | .nx e => ev e
    | .rt d e => .ok (.rt d e)
    | .bk e => .ok (.bk e)
    | .ct e => .ok (.ct e)) (i :: T) := fun F H σ env S ri D post =>
  sa F H σ _ _ (ri.kill i) D (Post.step (T1 := [i]) post (Stp.kill (by simp)) (fun j h => by simp at h; simp [h]) (fun j h => List.mem_cons_of_mem _ h) fun f _ hf => hf.step (T1 := [i]) (Stp.kill (by simp)) (fun _ _ => rfl) (fun j h => by simp at h; simp [h]) (fun j h => List.mem_cons_of_mem _ h))
/-- the slot i at another depth -/
def CC.re (C : CC) (i m : Nat) : CC := { C with G := C.G.set i m }
theorem CC.re_g {C : CC} {i m j : Nat} (h : j ≠ i) : (C.re i m).g j = C.g j := by
  unfold CC.g CC.re
  simp only [List.getD_eq_getElem?_getD]
  rw [List.getElem?_set_ne (fun e => h e.symm)]
theorem RI.alt {K : PySem.W.Frag} {g g' : Nat → Nat} {F H : Hp} {σ : L2.St} {env : Env} {S : Nat → AS} {i : Nat} (h : RI K g F H σ env S) (hg : ∀ j, j ≠ i → g' j = g j) : RI K g' F H σ (env.set i none) S := by
  refine ⟨h.sub, fun j d q => ?_, h.dj, h.lv, by rw [List.length_set]; exact h.len⟩
  unfold gt at q
  by_cases c : j = i
  · subst c
    rw [List.getElem?_set] at q
    split at q
    · split at q <;> cases q
    · rename_i c; exact absurd rfl c
  · rw [List.getElem?_set_ne (fun e => c e.symm)] at q
    rw [hg j c]
    exact h.cell j d q
theorem sem_alt {i m : Nat} {t : TS} {ev : Env → R Fl} (sa : SemS (C.re i m) E n t ev T) : SemS C E n t (fun env => (ev (env.set i none)).bind fun f => .ok (clr i f)) T := fun F H σ env S ri D post => by
  refine sa F H σ (env.set i none) S (ri.alt fun j hj => CC.re_g hj) D ?_
  have post : Post C E T F H S ((ev (env.set i none)).bind fun f => .ok (clr i f)) (PostF C n T F H S σ D) := post
  cases hx : ev (env.set i none) with
  | bad => rw [hx] at post; exact post
  | exc c d => rw [hx] at post; exact post
  | ok f =>
    rw [hx] at post
    have back : ∀ {e : Env} {F' H' σ' S'}, RI (C.re i m).K (C.re i m).g F' H' σ' e S' → RI C.K C.g F' H' σ' (e.set i none) S' := fun r => r.alt fun j hj => (CC.re_g hj).symm
    cases f with
    | nx e => exact fun F' H' S' σ' st r io => post F' H' S' σ' st (back r) io
    | bk e => exact fun F' H' S' σ' st r io => post F' H' S' σ' st (back r) io
    | ct e => exact fun F' H' S' σ' st r io => post F' H' S' σ' st (back r) io
    | rt d e => exact fun F' H' S' σ' v Z st r io ro fr => post F' H' S' σ' v Z st (back r) io ro fr
theorem sem_pass : SemS C E n tNext (fun env => .ok (.nx env)) T := sem_snil
theorem sem_brk : SemS C E n tBreak (fun env => .ok (.bk env)) T := fun F H σ env S ri D post => post F H S σ Stp.refl ri fun _ _ => rfl
theorem sem_cnt : SemS C E n tCont (fun env => .ok (.ct env)) T := fun F H σ env S ri D post => post F H S σ Stp.refl ri fun _ _ => rfl
theorem sem_retN : SemS C E n tRetN (fun env => .ok (.rt .non env)) T := fun F H σ env S ri D post => post F H S σ .non noA Stp.refl ri (fun _ _ => rfl) RO.non Frs.none
theorem sem_never : SemS C E n tNever (fun _ => .bad) T := fun F H σ env S ri D post => post
theorem sem_ret {t : TE} {ev : Env → R (D × Env)} (sa : SemE C E t ev n T) : SemS C E n (tRet t) (fun env => (ev env).bind fun p => .ok (.rt p.1 p.2)) T := fun F H σ env S ri D post =>
  sa F H σ env S ri _ (post.bind.to (fun _ h => h) fun p _ hp F1 H1 S1 v Z st ri1 ro fr => hp F1 H1 S1 σ v Z st ri1 (fun _ _ => rfl) ro fr)
theorem sem_drop {t : TE} {ev : Env → R (D × Env)} {m : Nat} (sa : SemE C E t ev m T) : SemS C E n (tDrop t) (fun env => (ev env).bind fun p => .ok (.nx p.2)) T := fun F H σ env S ri D post =>
  sa F H σ env S ri _ (post.bind.to (fun _ h => h) fun p _ hp F1 H1 S1 v Z st ri1 ro fr => hp F1 H1 S1 σ st ri1 fun _ _ => rfl)
theorem sem_if {t : TT} {u w : TS} {et : Env → R (Bool × Env)} {ea eb : Env → R Fl} (st : SemT C E t et T1) (sa : SemS C E n u ea T2) (sb : SemS C E n w eb T3) : SemS C E n (tIfS t u w) (fun env => (et env).bind fun p => if p.1 = true then ea p.2 else eb p.2) (T1 ++ (T2 ++ T3)) := fun F H σ env S ri D post => by
  refine st F H σ env S ri _ (post.bind.to (fun _ h => List.mem_append_left _ h) fun p _ hp F1 H1 S1 st1 ri1 => ?_)
  by_cases c : p.1 = true
  · rw [if_pos c] at hp ⊢
    exact sa F1 H1 σ p.2 S1 ri1 D (hp.step st1 (fun _ h => List.mem_append_left _ h) (fun _ h => List.mem_append_right _ (List.mem_append_left _ h)) fun f _ hf => hf.step st1 (fun _ _ => rfl) (fun _ h => List.mem_append_left _ h) (fun _ h => List.mem_append_right _ (List.mem_append_left _ h)))
  · rw [if_neg c] at hp ⊢
    exact sb F1 H1 σ p.2 S1 ri1 D (hp.step st1 (fun _ h => List.mem_append_left _ h) (fun _ h => List.mem_append_right _ (List.mem_append_right _ h)) fun f _ hf => hf.step st1 (fun _ _ => rfl) (fun _ h => List.mem_append_left _ h) (fun _ h => List.mem_append_right _ (List.mem_append_right _ h)))
theorem set_io {σ : L2.St} {i : Nat} {v : Option V} (h : i ∉ C.io) : ∀ j ∈ C.io, (σ.set i v)[j]? = σ[j]? := fun j hj => List.getElem?_set_ne fun e => h (by rw [e]; exact hj)
theorem sem_asg {t : TE} {ev : Env → R (D × Env)} {i : Nat} (sa : SemE C E t ev (C.g i) T) (hi : i ∉ C.io) : SemS C E n (tAsg t (gName i)) (fun env => (ev env).bind fun p => (bindT (.one i) p.1 p.2).bind fun env' => .ok (.nx env')) (T ++ [i]) := fun F H σ env S ri D post => by
  refine sa F H σ env S ri _ (post.bind.to (fun _ h => List.mem_append_left _ h) fun p _ hp F1 H1 S1 v Z st ri1 ro fr => ?_)
  have st' : Stp (T ++ [i]) F H S F1 H1 S1 := st.weak fun _ h => List.mem_append_left _ h
  have fr' : Frs (T ++ [i]) H S H1 S1 Z := fr.weak fun _ h => List.mem_append_left _ h
  exact hp F1 H1 _ _ (st'.setN (by simp) fr') (ri1.setN ro fun a z => ⟨(fr a z).1, (fr a z).2.2⟩) (set_io hi)
theorem sem_asgG {t : TE} {ev : Env → R (D × Env)} {g : TG} {bd : D → Env → R Env} {own : List Nat} (sa : SemE C E t ev 0 T) (sg : SemG C g bd own) (hi : ∀ i ∈ own, i ∉ C.io) (hx : ∀ d env c x, bd d env ≠ .exc c x) : SemS C E n (tAsg t g) (fun env => (ev env).bind fun p => (bd p.1 p.2).bind fun env' => .ok (.nx env')) T := fun F H σ env S ri D post => by
  refine sa F H σ env S ri _ (post.bind.to (fun _ h => h) fun p _ hp F1 H1 S1 v Z st ri1 ro fr => ?_)
  obtain ⟨env', he, hp⟩ := hp.bindo fun c x => hx p.1 p.2 c x
  exact sg F1 H1 σ p.2 S1 p.1 v env' ri1 ro he _ fun σ' ri' _ hs => hp F1 H1 S1 σ' st ri' fun j hj => hs j fun q => hi j q hj
theorem sem_par {ta tb : TE} {ea eb : Env → R (D × Env)} {i j : Nat} (sa : SemE C E ta ea (C.g i) T1) (sb : SemE C E tb eb (C.g j) T2) (hi : i ∉ C.io) (hj : j ∉ C.io) (hij : i ≠ j) : SemS C E n (tPar i j (tCons ta (tCons tb tNil))) (fun env => (ea env).bind fun p => (eb p.2).bind fun q => .ok (.nx ((q.2.set i (some p.1)).set j (some q.1)))) ((T1 ++ T2) ++ [i, j]) := fun F H σ env S ri D post => by
  refine sa F H σ env S ri _ (post.bind.to (fun _ h => List.mem_append_left _ (List.mem_append_left _ h)) fun p _ hp F1 H1 S1 v Z st1 ri1 ro fr => ?_)
  refine sb F1 H1 σ p.2 S1 ri1 _ (hp.bind.step st1 (fun _ h => List.mem_append_left _ (List.mem_append_left _ h)) (fun _ h => List.mem_append_left _ (List.mem_append_right _ h)) fun q _ hq F2 H2 S2 w Y st2 ri2 ro2 fr2 => ?_)
  refine ⟨v, w, rfl, ?_⟩
  have r1 : RO C.K F2 H2 (C.g i) p.1 v Z := st2.val ro fr
  have f1 : Frs (T1 ++ T2) H S H2 S2 Z := fr.on st2
  have f2 : Frs (T1 ++ T2) H S H2 S2 Y := fr2.back st1
  have st : Stp ((T1 ++ T2) ++ [i, j]) F H S F2 H2 S2 := (st1.trans st2).weak fun _ h => List.mem_append_left _ h
  have sta := st.setN (i := i) (by simp) (f1.weak fun _ h => List.mem_append_left _ h)
  have ria := ri2.setN r1 fun a z => ⟨(f1 a z).1, (f1 a z).2.2⟩
  have apart : ∀ a, Y a → ¬ Z a := fun a y z => by
    obtain ⟨⟨o, e⟩, _, n1⟩ := fr a z
    rcases (fr2 a y).2.1 with h | ⟨l, _, h⟩
    · rw [e] at h; cases h
    · exact n1 l h
  have f2' : ∀ a, Y a → (∃ o, H2 a = some o) ∧ ∀ l, ¬ updS S2 i Z l a := fun a y => ⟨(f2 a y).1, fun l z => by
    by_cases h : l = i
    · subst h; rw [updS_same] at z; exact apart a y z
    · rw [updS_ne h] at z; exact (f2 a y).2.2 l z⟩
  have stb := sta.setN (i := j) (Z := Y) (by simp) fun a y => ⟨(f2' a y).1, ((f2 a y).2.1).imp id fun ⟨l, hl, z⟩ => ⟨l, List.mem_append_left _ hl, z⟩, (f2' a y).2⟩
  refine hq F2 H2 _ _ stb (ria.setN ro2 f2') fun l hl => ?_
  rw [set_io hj l hl, set_io hi l hl]

/-! ### for, while -/
theorem forL_cons {bd : D → Env → R Env} {b : Env → R Fl} {d : D} {ds : List D} {env : Env} : forL bd b (d :: ds) env = (bd d env).bind fun env1 => (b env1).bind fun f => match f with
    | .nx e => forL bd b ds e
    | .ct e => forL bd b ds e
    | .bk e => .ok (.nx e)
    | .rt d e => .ok (.rt d e) := rfl
theorem sem_for {wi : TI} {g : TG} {tb : TS} {evw : Env → R (List D × Env)} {bd : D → Env → R Env} {eb : Env → R Fl} {own : List Nat} {b : Option Nat} (sw : SemW C E wi evw T1 b) (sg : SemG C g bd own) (sb : SemS C E n tb eb T2) (hi : ∀ i ∈ own, i ∉ C.io) (hx : ∀ d env c x, bd d env ≠ .exc c x) (hb : ∀ i, b = some i → i ∉ T2) :
    SemS C E n (tFor wi g tb) (fun env => (evw env).bind fun p => forL bd eb p.1 p.2) (T1 ++ T2) := fun F H σ env S ri D post => by
  refine sw F H σ env S ri _ (post.bind.to (fun _ h => List.mem_append_left _ h) fun p _ hp F1 H1 S1 J Zw st1 ri1 wk hzw => ?_)
  have hp1 : Post C E T2 F1 H1 S1 (forL bd eb p.1 p.2) (PostF C n T2 F1 H1 S1 σ D) := hp.step st1 (fun _ h => List.mem_append_left _ h) (fun _ h => List.mem_append_right _ h) fun f _ hf => hf.step st1 (fun _ _ => rfl) (fun _ h => List.mem_append_left _ h) (fun _ h => List.mem_append_right _ h)
  refine ⟨fun i m σ' H' => m = p.1.length - i ∧ i ≤ p.1.length ∧ ∃ F' env' S', Stp T2 F1 H1 S1 F' H' S' ∧ RI C.K C.g F' H' σ' env' S' ∧ (∀ j ∈ C.io, σ'[j]? = σ[j]?) ∧ forL bd eb (p.1.drop i) env' = forL bd eb p.1 p.2, ⟨p.1.length, by simp, Nat.zero_le _, F1, p.2, S1, Stp.refl, ri1, fun _ _ => rfl, rfl⟩, ?_⟩
  rintro i m σ' H' ⟨rfl, hi', F', env', S', st, ri', hio, hev⟩
  have kp : Kp F1 H1 Zw F' H' := st.kp ri' hzw hb
  by_cases hlt : i < p.1.length
  · refine .inr ⟨wk.goes i F' H' hlt kp, fun σ2 H2 => ∃ F' env' S', Stp T2 F1 H1 S1 F' H2 S' ∧ RI C.K C.g F' H2 σ2 env' S' ∧ (∀ j ∈ C.io, σ2[j]? = σ[j]?) ∧ forL bd eb (p.1.drop (i + 1)) env' = forL bd eb p.1 p.2, fun σ2 H2 h => ⟨p.1.length - (i + 1), by omega, rfl, hlt, h⟩, fun x Hx hy => ?_⟩
    have hdi : p.1[i]? = some p.1[i] := List.getElem?_eq_getElem hlt
    obtain ⟨Fx, ext, rx⟩ := wk.yld i F' H' x Hx _ hdi kp hy
    rw [List.drop_eq_getElem_cons hlt, forL_cons] at hev
    have rix := ri'.ext ext
    have stx : Stp T2 F1 H1 S1 Fx Hx S' := (st.trans (T2 := []) ext.stp).weak fun i hi => by simpa using hi
    rw [← hev] at hp1
    obtain ⟨env1, e1, hp2⟩ := hp1.bindo fun c y => hx _ _ c y
    rw [e1] at hev
    refine sg Fx Hx σ' env' S' _ x env1 rix rx e1 _ fun σ2 ri2 hl2 hs2 => ?_
    have io2 : ∀ j ∈ C.io, σ2[j]? = σ[j]? := fun j hj => (hs2 j fun q => hi j q hj).trans (hio j hj)
    refine sb Fx Hx σ2 env1 S' ri2 _ ?_
    have hp3 := hp2.bind
    simp only [R.bind_ok] at hev
    refine hp3.step stx (fun _ h => h) (fun _ h => h) fun f ef hf => ?_
    rw [ef] at hev
    simp only [R.bind_ok] at hev
    have both : ∀ i ∈ T2 ++ T2, i ∈ T2 := fun i h => (List.mem_append.mp h).elim id id
    cases f with
    | nx e => exact fun F3 H3 S3 σ3 st3 ri3 io3 => ⟨F3, e, S3, (stx.trans st3).weak both, ri3, fun j hj => (io3 j hj).trans (io2 j hj), hev⟩
    | ct e => exact fun F3 H3 S3 σ3 st3 ri3 io3 => ⟨F3, e, S3, (stx.trans st3).weak both, ri3, fun j hj => (io3 j hj).trans (io2 j hj), hev⟩
    | bk e => exact fun F3 H3 S3 σ3 st3 ri3 io3 => hf F3 H3 S3 σ3 ((stx.trans st3).weak both) ri3 fun j hj => (io3 j hj).trans (io2 j hj)
    | rt d e => exact fun F3 H3 S3 σ3 v Z st3 ri3 io3 ro fr => hf F3 H3 S3 σ3 v Z ((stx.trans st3).weak both) ri3 (fun j hj => (io3 j hj).trans (io2 j hj)) ro ((fr.back stx).weak both)
  · have ei : i = p.1.length := by omega
    subst ei
    refine .inl ⟨wk.stops F' H' kp, ?_⟩
    rw [List.drop_length] at hev
    rw [← hev] at hp1
    exact hp1 F' H' S' σ' st ri' hio
theorem whlL_succ {c : Env → R (Bool × Env)} {b : Env → R Fl} {m : Nat} {env : Env} : whlL c b (m + 1) env = (c env).bind fun p => if p.1 = true then (b p.2).bind fun f => match f with
    | .nx e => whlL c b m e
    | .ct e => whlL c b m e
    | .bk e => .ok (.nx e)
    | .rt d e => .ok (.rt d e) else .ok (.nx p.2) := rfl
theorem sem_whl {tc : TT} {tb : TS} {ec : Env → R (Bool × Env)} {eb : Env → R Fl} {fuel : Nat} (sc : SemT C E tc ec T1) (sb : SemS C E n tb eb T2) : SemS C E n (tWhile tc tb) (fun env => whlL ec eb fuel env) (T1 ++ T2) := fun F H σ env S ri D post => by
  have both : ∀ i ∈ (T1 ++ T2) ++ T1, i ∈ T1 ++ T2 := fun i h => (List.mem_append.mp h).elim id fun q => List.mem_append_left _ q
  have both2 : ∀ i ∈ (T1 ++ T2) ++ T2, i ∈ T1 ++ T2 := fun i h => (List.mem_append.mp h).elim id fun q => List.mem_append_right _ q
  refine ⟨fun m σ' H' => ∃ F' env' S', Stp (T1 ++ T2) F H S F' H' S' ∧ RI C.K C.g F' H' σ' env' S' ∧ (∀ j ∈ C.io, σ'[j]? = σ[j]?) ∧ whlL ec eb m env' = whlL ec eb fuel env, ⟨fuel, F, env, S, Stp.refl, ri, fun _ _ => rfl, rfl⟩, ?_⟩
  rintro m σ' H' ⟨F', env', S', st, ri', hio, hev⟩
  have hp : Post C E (T1 ++ T2) F H S (whlL ec eb fuel env) (PostF C n (T1 ++ T2) F H S σ D) := post
  rw [← hev] at hp
  cases m with
  | zero => exact hp.elim
  | succ m =>
    rw [whlL_succ] at hp hev
    refine sc F' H' σ' env' S' ri' _ (hp.bind.step st (fun _ h => h) (fun _ h => List.mem_append_left _ h) fun q eq hq F1 H1 S1 st1 ri1 => ?_)
    rw [eq] at hev
    simp only [R.bind_ok] at hev
    have st' := (st.trans st1).weak both
    by_cases c : q.1 = true
    · rw [if_pos c] at hq hev ⊢
      refine ⟨fun σ2 H2 => ∃ F' env' S', Stp (T1 ++ T2) F H S F' H2 S' ∧ RI C.K C.g F' H2 σ2 env' S' ∧ (∀ j ∈ C.io, σ2[j]? = σ[j]?) ∧ whlL ec eb m env' = whlL ec eb fuel env, fun σ2 H2 h => ⟨m, Nat.lt_succ_self m, h⟩, ?_⟩
      refine sb F1 H1 σ' q.2 S1 ri1 _ (hq.bind.step st' (fun _ h => h) (fun _ h => List.mem_append_right _ h) fun f ef hf => ?_)
      rw [ef] at hev
      simp only [R.bind_ok] at hev
      cases f with
      | nx e => exact fun F3 H3 S3 σ3 st3 ri3 io3 => ⟨F3, e, S3, (st'.trans st3).weak both2, ri3, fun j hj => (io3 j hj).trans (hio j hj), hev⟩
      | ct e => exact fun F3 H3 S3 σ3 st3 ri3 io3 => ⟨F3, e, S3, (st'.trans st3).weak both2, ri3, fun j hj => (io3 j hj).trans (hio j hj), hev⟩
      | bk e => exact fun F3 H3 S3 σ3 st3 ri3 io3 => hf F3 H3 S3 σ3 ((st'.trans st3).weak both2) ri3 fun j hj => (io3 j hj).trans (hio j hj)
      | rt d e => exact fun F3 H3 S3 σ3 v Z st3 ri3 io3 ro fr => hf F3 H3 S3 σ3 v Z ((st'.trans st3).weak both2) ri3 (fun j hj => (io3 j hj).trans (hio j hj)) ro ((fr.back st').weak both2)
    · rw [if_neg c] at hq ⊢
      exact hq F1 H1 S1 σ' st' ri1 hio
end
end DL
/-! DLC: paths, and the statements that change what a slot owns. -/
namespace DL
open PySem PySem.Spec PyProof.Rows L2

section
variable {C : CC} {E : XK} {T T1 T2 T3 T4 : List Nat} {F H F1 H1 F2 H2 F0 H0 : Hp} {S S0 S1 S2 : Nat → AS} {K : PySem.W.Frag} {G : Nat → Nat} {n m q : Nat}
/-- the reading of a path from slot x -/
def SemQ (C : CC) (E : XK) (t : TE) (x m : Nat) (ep : Env → R (List D × Env)) (T : List Nat) : Prop :=
  ∀ F H σ env S, RI C.K C.g F H σ env S → ∀ Q : VK,
    Post C E T F H S (pth x ep env) (fun ks => ∀ F' H' S' vc, Stp T F H S F' H' S' → RI C.K C.g F' H' σ ks.2 S' → ks.1.length = m → PthV σ H' x ks.1 vc → (m = 0 ∨ ∃ a, σ[x]? = some (some (.ref a)) ∧ S' x a) → Q vc H') → t σ H Q
theorem sem_q0 {x : Nat} : SemQ C E (tVar x) x 0 (fun env => .ok ([], env)) T := fun F H σ env S ri Q post => by
  obtain ⟨d0, _, post⟩ := getv_ok post
  obtain ⟨d, hd, post⟩ := getv_ok (show Post C E T F H S ((getv x env).bind fun d => (ofOpt (atPath d [])).bind fun _ => .ok ([], env)) _ from post)
  obtain ⟨_, _, post⟩ := post.opt
  obtain ⟨v, e, _⟩ := ri.cell x d hd
  exact ⟨v, e, post F H S v Stp.refl ri rfl e (.inl rfl)⟩
/-- a list or a dict, by values -/
def rPth (K : PySem.W.Frag) : R2 := fun x y H Q => rIxL K x y H Q ∨ rIxDK x y H Q
theorem atPath_one {d dc k : D} (h : atPath d [k] = some dc) : (∃ ds i j, d = .lst ds ∧ k = .int i ∧ ixN ds.length i = some j ∧ ds[j]? = some dc) ∨ (∃ ds k' j a, d = .dic ds ∧ keyOf k = some k' ∧ firstAt (fun kv => decide (kv.1 = k')) ds = some j ∧ ds[j]? = some (a, dc)) := by
  cases d with
  | lst ds =>
    cases k with
    | int i =>
      have h : ((atI ds i).bind fun d => atPath d []) = some dc := h
      obtain ⟨d1, h1, h2⟩ := Option.bind_eq_some_iff.mp h
      have : some d1 = some dc := by cases d1 <;> exact h2
      cases this
      unfold atI at h1
      obtain ⟨j, hj, h1⟩ := Option.bind_eq_some_iff.mp h1
      exact .inl ⟨ds, i, j, rfl, rfl, hj, h1⟩
    | _ => cases h
  | dic ds =>
    have h : ((keyOf k).bind fun k => (firstAt (fun kv => decide (kv.1 = k)) ds).bind fun j => (ds[j]?).bind fun kv => atPath kv.2 []) = some dc := by cases k <;> exact h
    obtain ⟨k', hk, h⟩ := Option.bind_eq_some_iff.mp h
    obtain ⟨j, hj, h⟩ := Option.bind_eq_some_iff.mp h
    obtain ⟨kv, h1, h2⟩ := Option.bind_eq_some_iff.mp h
    have e2 : some kv.2 = some dc := by cases h : kv.2 <;> rw [h] at h2 <;> exact h2
    cases e2
    exact .inr ⟨ds, k', j, kv.1, rfl, hk, hj, h1⟩
  | _ => cases k <;> cases h
theorem reach_of {d dc k : D} {v : V} {Z : AS} (r : RO K F H (n + 1) d v Z) (hc : atPath d [k] = some dc) : ∃ vc a, v = .ref a ∧ Z a ∧ Reach H v k vc := by
  rcases atPath_one hc with ⟨ds, i, j, rfl, rfl, hj, h1⟩ | ⟨ds, k', j, a0, rfl, hk, hj, h1⟩
  · obtain ⟨a, xs, T, rfl, ea, fa, sa, hl, ht, hd, q⟩ := r
    obtain ⟨hj', _⟩ := List.getElem?_eq_some_iff.mp h1
    have hj2 : j < xs.length := by omega
    refine ⟨xs[j], a, rfl, sa, .inl ⟨a, xs, i, rfl, ea, rfl, ?_⟩⟩
    have : ixN xs.length i = some j := by rw [← hl]; exact hj
    unfold atI
    rw [this]
    exact List.getElem?_eq_getElem hj2
  · obtain ⟨a, xs, T, rfl, ea, fa, sa, hl, ht, hd, q⟩ := r
    obtain ⟨vj, g1, g2⟩ := firstAt_keys (P := fun i d v => RO K F H n d v (T i)) hl q hj
    exact ⟨vj, a, rfl, sa, .inr ⟨a, xs, k', rfl, ea, hk, g2⟩⟩
theorem reach_rule {v kv vc : V} {k : D} (h : Reach H v k vc) {nk : Nat} {Zk : AS} (rk : RO K F H nk k kv Zk) (Q : VK) (hq : Q vc H) : rPth K v kv H Q := by
  rcases h with ⟨a, xs, i, rfl, ea, rfl, hv⟩ | ⟨a, kvs, k', rfl, ea, hk, hv⟩
  · exact .inl ⟨a, xs, i, vc, rfl, rk.int_v, .inl (.inl ea), hv, hq⟩
  · rw [key_v hk rk]
    exact .inr ⟨a, vc, rfl, hv ▸ DGet.k ea, hq⟩
theorem sem_q1 {x : Nat} {tk : TE} {ek : Env → R (D × Env)} {nk : Nat} {bk : Option Nat} (sk : SemP C E tk ek nk T bk) (hx : x ∉ T) (hg : 1 ≤ C.g x) : SemQ C E (tOp (rPth C.K) (tVar x) tk) x 1 (fun env => (ek env).bind fun p => .ok ([p.1], p.2)) T := fun F H σ env S ri Q post => by
  obtain ⟨d0, hd0, post⟩ := getv_ok post
  obtain ⟨v, e, _⟩ := ri.cell x d0 hd0
  refine ⟨v, e, sk F H σ env S ri _ ?_⟩
  have post : Post C E T F H S ((ek env).bind fun p => (getv x p.2).bind fun d => (ofOpt (atPath d [p.1])).bind fun _ => R.ok ([p.1], p.2)) (fun ks => ∀ F' H' S' vc, Stp T F H S F' H' S' → RI C.K C.g F' H' σ ks.2 S' → ks.1.length = 1 → PthV σ H' x ks.1 vc → (1 = 0 ∨ ∃ a, σ[x]? = some (some (.ref a)) ∧ S' x a) → Q vc H') := by
    revert post
    cases h : ek env <;> simp only [pth, h, R.bind_ok, R.bind_exc, R.bind_bad] <;> exact id
  refine post.bind.to (fun _ h => h) fun p _ hp F1 H1 S1 vk Zk st1 ri1 rk zk => ?_
  obtain ⟨d, hd, hp⟩ := getv_ok hp
  obtain ⟨dc, hc, hp⟩ := hp.opt
  obtain ⟨v', e', r⟩ := ri1.cell x d hd
  rw [e] at e'
  cases e'
  obtain ⟨gm, hgm⟩ : ∃ gm, C.g x = gm + 1 := ⟨C.g x - 1, by omega⟩
  rw [hgm] at r
  obtain ⟨vc, a, ev, sa, hr⟩ := reach_of r hc
  exact reach_rule hr rk Q (hp F1 H1 S1 vc st1 ri1 rfl ⟨v, e, hr⟩ (.inr ⟨a, by rw [← ev]; exact e, sa⟩))
/-- a path stays when its slot is not touched -/
theorem PthV.keep {σ : L2.St} {env : Env} {x : Nat} {p : List D} {vc : V} (h : PthV σ H1 x p vc) (ri : RI K G F1 H1 σ env S1) (st : Stp T F1 H1 S1 F2 H2 S2) (hx : x ∉ T) (hg : p.length = 0 ∨ ∃ a, σ[x]? = some (some (.ref a)) ∧ S1 x a) : PthV σ H2 x p vc := by
  match p, h with
  | [], h => exact h
  | [k], h =>
    obtain ⟨v0, e, hr⟩ := h
    obtain ⟨a0, e0, sa⟩ := hg.resolve_left (by simp)
    refine ⟨v0, e, ?_⟩
    rw [e] at e0
    cases e0
    have kp : ∀ a o, S1 x a → H1 a = some o → H2 a = some o := fun a o sa ea => st.keep a o ea fun i hi w => hx (ri.dj x i a sa w ▸ hi)
    rcases hr with ⟨a, xs, i, e1, ea, rfl, hv⟩ | ⟨a, kvs, k', e1, ea, hk, hv⟩
    · cases e1; exact .inl ⟨a0, xs, i, rfl, kp a0 _ sa ea, rfl, hv⟩
    · cases e1; exact .inr ⟨a0, kvs, k', rfl, kp a0 _ sa ea, hk, hv⟩
theorem onPath_split {f : D → Option D} {d d' : D} {p : List D} (hp : p.length ≤ 1) (h : onPath f d p = some d') : ∃ dc dc', atPath d p = some dc ∧ f dc = some dc' ∧ onPath (fun _ => some dc') d p = some d' := by
  match p, hp with
  | [], _ =>
    have h : f d = some d' := by cases d <;> exact h
    exact ⟨d, d', by cases d <;> rfl, h, by cases d <;> rfl⟩
  | [k], _ =>
    cases d with
    | lst ds =>
      cases k with
      | int i =>
        have h : ((ixN ds.length i).bind fun j => (ds[j]?).bind fun d => (onPath f d []).bind fun d' => some (D.lst (ds.set j d'))) = some d' := h
        obtain ⟨j, hj, h⟩ := Option.bind_eq_some_iff.mp h
        obtain ⟨dc, h1, h⟩ := Option.bind_eq_some_iff.mp h
        obtain ⟨dc', h2, h⟩ := Option.bind_eq_some_iff.mp h
        have h2 : f dc = some dc' := by cases dc <;> exact h2
        refine ⟨dc, dc', ?_, h2, ?_⟩
        · show ((atI ds i).bind fun d => atPath d []) = some dc
          unfold atI
          rw [hj]
          simp only [Option.bind_some]
          rw [h1]
          cases dc <;> rfl
        · show ((ixN ds.length i).bind fun j => (ds[j]?).bind fun d => (onPath (fun _ => some dc') d []).bind fun d' => some (D.lst (ds.set j d'))) = some d'
          rw [hj]
          simp only [Option.bind_some]
          rw [h1]
          simp only [Option.bind_some]
          rw [show onPath (fun _ => some dc') dc [] = some dc' by cases dc <;> rfl]
          exact h
      | _ => cases h
    | dic ds =>
      have h : ((keyOf k).bind fun k => (firstAt (fun kv => decide (kv.1 = k)) ds).bind fun j => (ds[j]?).bind fun kv => (onPath f kv.2 []).bind fun d' => some (D.dic (ds.set j (kv.1, d')))) = some d' := by cases k <;> exact h
      obtain ⟨k', hk, h⟩ := Option.bind_eq_some_iff.mp h
      obtain ⟨j, hj, h⟩ := Option.bind_eq_some_iff.mp h
      obtain ⟨kv, h1, h⟩ := Option.bind_eq_some_iff.mp h
      obtain ⟨dc', h2, h⟩ := Option.bind_eq_some_iff.mp h
      have h2 : f kv.2 = some dc' := by cases h : kv.2 <;> rw [h] at h2 <;> exact h2
      refine ⟨kv.2, dc', ?_, h2, ?_⟩
      · have : ((keyOf k).bind fun k => (firstAt (fun kv => decide (kv.1 = k)) ds).bind fun j => (ds[j]?).bind fun kv => atPath kv.2 []) = some kv.2 := by
          rw [hk]
          simp only [Option.bind_some]
          rw [hj]
          simp only [Option.bind_some]
          rw [h1]
          simp only [Option.bind_some]
          cases kv.2 <;> rfl
        cases k <;> exact this
      · have : ((keyOf k).bind fun k => (firstAt (fun kv => decide (kv.1 = k)) ds).bind fun j => (ds[j]?).bind fun kv => (onPath (fun _ => some dc') kv.2 []).bind fun d' => some (D.dic (ds.set j (kv.1, d')))) = some d' := by
          rw [hk]
          simp only [Option.bind_some]
          rw [hj]
          simp only [Option.bind_some]
          rw [h1]
          simp only [Option.bind_some]
          rw [show onPath (fun _ => some dc') kv.2 [] = some dc' by cases kv.2 <;> rfl]
          exact h
        cases k <;> exact this
    | _ => cases k <;> cases h
def isCon : D → Prop
  | .lst _ => True
  | .dic _ => True
  | _ => False
/-- the part at a path is an object of its own: what follows when it is changed -/
theorem mutP {σ : L2.St} {env : Env} {x : Nat} {p : List D} {vc : V} {d dc : D} (ri : RI K G F H σ env S) (hg : G x = p.length + (q + 1)) (hx : gt env x = some d) (hp : PthV σ H x p vc) (hc : atPath d p = some dc) (hk : isCon dc) :
    ∃ b Tc, vc = .ref b ∧ RO K F H (q + 1) dc (.ref b) Tc ∧ (∀ c, Tc c → S x c) ∧ ∀ (o' : HO) (dc' : D) (Tc' Zn : AS), RO K F (upd H b o') (q + 1) dc' (.ref b) Tc' → (∀ c, Tc' c → Tc c ∨ Zn c) → (∀ c, Zn c → (∃ o, H c = some o) ∧ ∀ j, ¬ S j c) →
      ∀ d', onPath (fun _ => some dc') d p = some d' → ∀ {F0 H0 : Hp} {S0 : Nat → AS} {T : List Nat}, Stp T F0 H0 S0 F H S → x ∈ T → (∀ c, Zn c → H0 c = none ∨ ∃ i ∈ T, S0 i c) →
      Stp T F0 H0 S0 F (upd H b o') (updS S x fun c => (S x c ∧ ¬ Tc c) ∨ Tc' c) ∧ RI K G F (upd H b o') σ (env.set x (some d')) (updS S x fun c => (S x c ∧ ¬ Tc c) ∨ Tc' c) := by
  obtain ⟨v, e, r⟩ := ri.cell x d hx
  rw [hg] at r
  obtain ⟨Tc, rc, ts, hw⟩ := r.part e hp hc
  have key : ∃ b, vc = .ref b ∧ Tc b ∧ F b = none := by
    cases dc
    case lst ds => obtain ⟨a, ys, T, rfl, ea', fa, sa, _⟩ := rc; exact ⟨a, rfl, sa, fa⟩
    case dic ds => obtain ⟨a, ys, T, rfl, ea', fa, sa, _⟩ := rc; exact ⟨a, rfl, sa, fa⟩
    all_goals exact hk.elim
  obtain ⟨b, rfl, tb, fb⟩ := key
  refine ⟨b, Tc, rfl, rc, ts, fun o' dc' Tc' Zn r' hT hz d' hd F0 H0 S0 T st hxT hzn => ?_⟩
  have rn := hw b o' dc' Tc' Zn tb r' hT (fun c z w => (hz c z).2 x w) d' hd
  rw [← hg] at rn
  have hW : ∀ c, ((S x c ∧ ¬ Tc c) ∨ Tc' c) → S x c ∨ Zn c := fun c w => w.elim (fun w => .inl w.1) fun w => (hT c w).imp (ts c) id
  exact ⟨st.mut hxT (ts b tb) hW hzn, ri.mut e (ts b tb) fb rn hW hz⟩

/-! ### x.append(e) -/
theorem isLst_some {dc : D} {u : Unit} (h : isLst dc = some u) : ∃ ds, dc = .lst ds := by cases dc <;> first | (cases h; done) | exact ⟨_, rfl⟩
theorem appTo_some {v dc dc' : D} (h : appTo v dc = some dc') : ∃ ds, dc = .lst ds ∧ ds.length < sizeLine ∧ dc' = .lst (ds ++ [v]) := by
  cases dc <;> first | (cases h; done) | skip
  rename_i ds
  have h : (if ds.length < sizeLine then some (D.lst (ds ++ [v])) else none) = some dc' := h
  by_cases c : ds.length < sizeLine
  · rw [if_pos c] at h; cases h; exact ⟨ds, rfl, c, rfl⟩
  · rw [if_neg c] at h; cases h
theorem RO.lst_at {ds : List D} {v : V} {Z : AS} (r : RO K F H (n + 1) (.lst ds) v Z) : ∃ b xs, v = .ref b ∧ H b = some (.lst xs) ∧ Z b ∧ F b = none ∧ ds.length = xs.length := by
  obtain ⟨a, ys, T, rfl, ea', fa, sa, hl, _⟩ := r
  exact ⟨a, ys, rfl, ea', sa, fa, hl⟩
theorem sem_app {tq te : TE} {x : Nat} {ep : Env → R (List D × Env)} {ee : Env → R (D × Env)} (hm : m ≤ 1) (sq : SemQ C E tq x m ep T1) (se : SemE C E te ee q T2) (hg : C.g x = m + (q + 1)) (hx : x ∉ T2) :
    SemS C E n (tDrop (tBM C.K "list" rAppend tq (tCons te tNil))) (fun env => (pth x ep env).bind fun ks => (getv x ks.2).bind fun d => (ofOpt ((atPath d ks.1).bind isLst)).bind fun _ => (ee ks.2).bind fun v => (getv x v.2).bind fun d => (ofOpt (onPath (appTo v.1) d ks.1)).bind fun d' => .ok (.nx (v.2.set x (some d')))) ((T1 ++ T2) ++ [x]) := fun F H σ env S ri D post => by
  refine sq F H σ env S ri _ (post.bind.to (fun _ h => List.mem_append_left _ (List.mem_append_left _ h)) fun ks _ hp F1 H1 S1 vc st1 ri1 hl pv own => ?_)
  obtain ⟨d1, hd1, hp⟩ := getv_ok hp
  obtain ⟨u, hu, hp⟩ := hp.opt
  obtain ⟨dc1, hc1, hu⟩ := Option.bind_eq_some_iff.mp hu
  obtain ⟨ds1, rfl⟩ := isLst_some hu
  subst hl
  obtain ⟨b, Tc, rfl, rc, _, _⟩ := mutP ri1 hg hd1 pv hc1 True.intro
  obtain ⟨b', xs, eb, hb, _⟩ := rc.lst_at
  cases eb
  refine ⟨.inl ⟨rfl, xs, .inl (.inl hb)⟩, ?_⟩
  refine se F1 H1 σ ks.2 S1 ri1 _ (hp.bind.step st1 (fun _ h => List.mem_append_left _ (List.mem_append_left _ h)) (fun _ h => List.mem_append_left _ (List.mem_append_right _ h)) fun w _ hq F2 H2 S2 v Z st2 ri2 rv fv => ?_)
  obtain ⟨d2, hd2, hq⟩ := getv_ok hq
  obtain ⟨d', hd', hq⟩ := hq.opt
  obtain ⟨dc2, dc2', hc2, ha, ho⟩ := onPath_split hm hd'
  obtain ⟨ds2, rfl, hsz, rfl⟩ := appTo_some ha
  have pv2 := pv.keep ri1 st2 hx own
  obtain ⟨b2, Tc2, eb2, rc2, ts2, mk⟩ := mutP ri2 hg hd2 pv2 hc2 True.intro
  cases eb2
  obtain ⟨b', xs2, eb, hb2, tb2, fb2, hl2⟩ := rc2.lst_at
  cases eb
  have hzn : ∀ c, Z c → ¬ Tc2 c := fun c z w => (fv c z).2.2 x (ts2 c w)
  refine ⟨b, xs2, v, rfl, rfl, hb2, by omega, ?_⟩
  have st12 : Stp ((T1 ++ T2) ++ [x]) F H S F2 H2 S2 := (st1.trans st2).weak fun _ h => List.mem_append_left _ h
  obtain ⟨stn, rin⟩ := mk (.lst (xs2 ++ [v])) _ _ Z (rc2.appL hb2 rv hzn) (fun c w => w) (fun c z => ⟨(fv c z).1, (fv c z).2.2⟩) d' ho st12 (by simp) fun c z => by
    rcases ((fv.back st1) c z).2.1 with h | ⟨i, hi, h⟩
    · exact .inl h
    · exact .inr ⟨i, List.mem_append_left _ hi, h⟩
  exact hq F2 _ _ σ stn rin fun _ _ => rfl

/-! ### x[k] = e -/
def rSet : TSet := fun o i v H Q => rSetL o i v H Q ∨ rSetD o i v H Q
theorem pset_any {X : Cx} (hu : X.A.units + 1 < cLine) : PSet X rSet := by
  intro pins s σ H o i v ov iv u Q I ro ri rv h
  rcases h with h | h
  · exact set_list pins s σ H o i v ov iv u Q I ro ri rv h
  · exact set_dict hu pins s σ H o i v ov iv u Q I ro ri rv h
theorem setAt_some {dd : Bool} {k v dc dc' : D} (h : setAt dd k v dc = some dc') : (∃ ds i j, dc = .lst ds ∧ k = .int i ∧ ixN ds.length i = some j ∧ dc' = .lst (ds.set j v)) ∨ (dd = true ∧ ∃ ds k', dc = .dic ds ∧ keyOf k = some k' ∧ ds.length < sizeLine ∧ dc' = .dic (putD ds k' v)) := by
  cases dc with
  | lst ds =>
    cases k with
    | int i =>
      have h : ((ixN ds.length i).bind fun j => some (D.lst (ds.set j v))) = some dc' := h
      obtain ⟨j, hj, h⟩ := Option.bind_eq_some_iff.mp h
      cases h
      exact .inl ⟨ds, i, j, rfl, rfl, hj, rfl⟩
    | _ => cases h
  | dic ds =>
    have h : (if dd = true then ((keyOf k)).bind fun k => if ds.length < sizeLine then some (D.dic (putD ds k v)) else none else none) = some dc' := h
    by_cases c : dd = true
    · rw [if_pos c] at h
      obtain ⟨k', hk, h⟩ := Option.bind_eq_some_iff.mp h
      by_cases c2 : ds.length < sizeLine
      · rw [if_pos c2] at h; cases h; exact .inr ⟨c, ds, k', rfl, hk, c2, rfl⟩
      · rw [if_neg c2] at h; cases h
    · rw [if_neg c] at h; cases h
  | _ => cases h
/-- the store itself: dc at the path becomes dc' -/
theorem set_core {σ : L2.St} {env : Env} {x : Nat} {p : List D} {vc vk v : V} {d dk dv d' : D} {dd : Bool} {nk : Nat} {Zk Z : AS} (ri : RI K G F H σ env S) (hm : p.length ≤ 1) (hg : G x = p.length + (q + 1)) (hq : dd = true → q = 0) (hx : gt env x = some d) (hp : PthV σ H x p vc) (rk : RO K F H nk dk vk Zk) (rv : RO K F H q dv v Z)
    (hz : ∀ c, Z c → (∃ o, H c = some o) ∧ ∀ j, ¬ S j c) (ho : onPath (setAt dd dk dv) d p = some d') {T : List Nat} (st : Stp T F0 H0 S0 F H S) (hT : x ∈ T) (hz0 : ∀ c, Z c → H0 c = none ∨ ∃ i ∈ T, S0 i c) (Q : Hp → Prop) (hQ : ∀ H' S', Stp T F0 H0 S0 F H' S' → RI K G F H' σ (env.set x (some d')) S' → Q H') : rSet vc vk v H Q := by
  obtain ⟨dc, dc', hc, hs, ho⟩ := onPath_split hm ho
  rcases setAt_some hs with ⟨ds, i, j, rfl, rfl, hj, rfl⟩ | ⟨hdd, ds, k', rfl, hk, hsz, rfl⟩
  · obtain ⟨b, Tc, rfl, rc, ts, mk⟩ := mutP ri hg hx hp hc True.intro
    obtain ⟨b', xs, eb, hb, tb, fb, hl⟩ := rc.lst_at
    cases eb
    have hzn : ∀ c, Z c → ¬ Tc c := fun c z w => (hz c z).2 x (ts c w)
    refine .inl ⟨b, xs, i, j, rfl, rk.int_v, hb, by rw [← hl]; exact hj, ?_⟩
    obtain ⟨stn, rin⟩ := mk (.lst (xs.set j v)) _ _ Z (rc.setL hb rv hzn) (fun c w => w) hz d' ho st hT hz0
    exact hQ _ _ stn rin
  · have q0 := hq hdd
    subst q0
    obtain ⟨b, Tc, rfl, rc, ts, mk⟩ := mutP ri hg hx hp hc True.intro
    obtain ⟨b', xs, T', eb, hb, fb, tb, hl, ht, hd, hr⟩ := id rc
    cases eb
    rw [key_v hk rk]
    refine .inr ⟨b, _, rfl, DPut.k hb (by omega), ?_⟩
    obtain ⟨stn, rin⟩ := mk (.dK (L2.putK xs k' v)) _ Tc noA (rc.putK hb rv) (fun c w => .inl w) (fun c w => w.elim) d' ho st hT fun c w => w.elim
    exact hQ _ _ stn rin
theorem sem_sets {tq te tk : TE} {x nk : Nat} {bk : Option Nat} {dd : Bool} {ep : Env → R (List D × Env)} {ee ek : Env → R (D × Env)} (hm : m ≤ 1) (se : SemE C E te ee q T1) (sq : SemQ C E tq x m ep T2) (sk : SemP C E tk ek nk T3 bk) (hg : C.g x = m + (q + 1)) (hx : x ∉ T3) (hq : dd = true → q = 0) :
    SemS C E n (tAsg te (gSub tq tk rSet)) (fun env => (ee env).bind fun v => (pth x ep v.2).bind fun ks => (ek ks.2).bind fun l => (getv x l.2).bind fun d => (ofOpt (onPath (setAt dd l.1 v.1) d ks.1)).bind fun d' => .ok (.nx (l.2.set x (some d')))) ((T1 ++ (T2 ++ T3)) ++ [x]) := fun F H σ env S ri D post => by
  refine se F H σ env S ri _ (post.bind.to (fun i h => by simp at h ⊢; exact .inl h) fun w _ hp F1 H1 S1 v Z st1 ri1 rv fv => ?_)
  refine sq F1 H1 σ w.2 S1 ri1 _ (hp.bind.step st1 (fun i h => by simp at h ⊢; exact .inl h) (fun i h => by simp at h ⊢; exact .inr (.inl h)) fun ks _ hp F2 H2 S2 vc st2 ri2 hl pv own => ?_)
  have st12 := st1.trans st2
  refine sk F2 H2 σ ks.2 S2 ri2 _ (hp.bind.step st12 (fun i h => by simp at h ⊢; rcases h with h | h; exact .inl h; exact .inr (.inl h)) (fun i h => by simp at h ⊢; exact .inr (.inr (.inl h))) fun l _ hp F3 H3 S3 vk Zk st3 ri3 rk zk => ?_)
  obtain ⟨d, hd, hp⟩ := getv_ok hp
  obtain ⟨d', hd', hp⟩ := hp.opt
  subst hl
  have pv3 := pv.keep ri2 st3 hx own
  have st23 := st2.trans st3
  have rv3 := st23.val rv fv
  have f3 := fv.on st23
  have st13 : Stp ((T1 ++ (T2 ++ T3)) ++ [x]) F H S F3 H3 S3 := (st1.trans st23).weak fun _ h => List.mem_append_left _ h
  exact set_core ri3 hm hg hq hd pv3 rk rv3 (fun c z => ⟨(f3 c z).1, (f3 c z).2.2⟩) hd' st13 (by simp) (fun c z => by
    rcases (f3 c z).2.1 with h | ⟨i, hi, h⟩
    · exact .inl h
    · exact .inr ⟨i, List.mem_append_left _ hi, h⟩) _ fun H' S' stn rin => hp F3 H' S' σ stn rin fun _ _ => rfl

/-! ### x op= e, x[k] op= e -/
/-- ints, texts -/
def Rp0 : D → V → Prop
  | .int i, v => v = .int i
  | .str s, v => v = .str s
  | _, _ => False
theorem Rp0.ro {d : D} {v : V} (h : Rp0 d v) : RO K F H n d v noA := by
  cases d <;> first | exact h.elim | skip
  · rw [show v = _ from h]; exact RO.int
  · rw [show v = _ from h]; exact RO.str
theorem RO.r0 {d : D} {v : V} {Z : AS} (r : RO K F H n d v Z) (h : ∃ w, Rp0 d w) : Rp0 d v := by
  cases d <;> first | exact h.elim fun _ h => h.elim | skip
  · exact r.int_v
  · exact r.str_v
theorem opA_in {o : Op2} {a b d : D} (h : opA o a b = some d) : (∃ w, Rp0 a w) ∧ (∃ w, Rp0 b w) ∧ ∃ w, Rp0 d w := by
  cases o <;> cases a <;> cases b <;> first | (cases h; done) | skip
  all_goals (first | (cases h; exact ⟨⟨_, rfl⟩, ⟨_, rfl⟩, _, rfl⟩) | (simp only [opA] at h; split at h <;> first | (cases h; exact ⟨⟨_, rfl⟩, ⟨_, rfl⟩, _, rfl⟩) | cases h))
/-- the rules of op= -/
def tipA : Op2 → TIp
  | .add => fun x y H Q => rI0 (fun i j => .int (i + j)) x y H Q ∨ ∃ i j, x = .str i ∧ y = .str j ∧ i.length + j.length ≤ sizeLine ∧ Q (.str (i ++ j)) H
  | .sub => rI0 fun i j => .int (i - j)
  | .mul => rI CMul fun i j => .int (i * j)
  | .fdiv => rI CDiv fun i j => .int (i / j)
  | .mod => rI (fun _ j => 0 < j) fun i j => .int (i % j)
  | _ => fun _ _ _ _ => False
theorem tipA_ok {o : Op2} {a b d : D} (h : opA o a b = some d) {va vb : V} {H : Hp} {Q : VK} (ra : Rp0 a va) (rb : Rp0 b vb) (hq : ∀ v, Rp0 d v → Q v H) : tipA o va vb H Q := by
  cases o <;> cases a <;> cases b <;> first | (cases h; done) | skip
  · cases h; rw [show va = _ from ra, show vb = _ from rb]; exact .inl ⟨_, _, rfl, rfl, hq _ rfl⟩
  · rename_i x y
    have h : (if x.length + y.length ≤ sizeLine then some (D.str (x ++ y)) else none) = some d := h
    split at h
    · rename_i c; cases h; rw [show va = _ from ra, show vb = _ from rb]; exact .inr ⟨_, _, rfl, rfl, c, hq _ rfl⟩
    · cases h
  · cases h; rw [show va = _ from ra, show vb = _ from rb]; exact ⟨_, _, rfl, rfl, hq _ rfl⟩
  · rename_i i j
    have h : (if i.natAbs < 18446744073709551616 ∨ j.natAbs < 18446744073709551616 then some (D.int (i * j)) else none) = some d := h
    split at h
    · rename_i c; cases h; rw [show va = _ from ra, show vb = _ from rb]
      exact ⟨_, _, rfl, rfl, by unfold CMul; omega, hq _ rfl⟩
    · cases h
  · rename_i i j
    have h : (if 0 < j ∧ j < 1073741824 then some (D.int (i / j)) else none) = some d := h
    split at h
    · rename_i c; cases h; rw [show va = _ from ra, show vb = _ from rb]; exact ⟨_, _, rfl, rfl, c, hq _ rfl⟩
    · cases h
  · rename_i i j
    have h : (if 0 < j then some (D.int (i % j)) else none) = some d := h
    split at h
    · rename_i c; cases h; rw [show va = _ from ra, show vb = _ from rb]; exact ⟨_, _, rfl, rfl, c, hq _ rfl⟩
    · cases h
def opAst : Operator → Option Op2
  | .Add => some .add
  | .Sub => some .sub
  | .Mult => some .mul
  | .FloorDiv => some .fdiv
  | .Mod => some .mod
  | _ => none
theorem pip_ok {X : Cx} {op : Operator} {o : Op2} (h : opAst op = some o) : PIp X op (tipA o) := by
  cases op <;> first | (cases h; done) | skip
  all_goals cases h
  · exact iop_add.or iop_add_str
  · exact iop_sub
  · exact iop_mul
  · exact iop_mod
  · exact iop_fdiv
theorem pget_any {X : Cx} (hu : X.A.units + 1 < cLine) : PGet X (rPth X.K) := by
  intro pins s σ H x y v u Q I rx ry h
  rcases h with h | h
  · obtain ⟨p, xs, i, z, rfl, rfl, hq, he, q⟩ := h
    cases rx
    obtain ⟨t, rfl⟩ := ry
    obtain ⟨its, r, pl, hz⟩ := I.list hq
    obtain ⟨j, h1, h2, h3, h4, h5⟩ := atI_get he
    obtain ⟨w, ew, rw'⟩ := r.get h2
    have hl := r.length
    have hn := line63
    have fin : EP X pins σ Q w s := ⟨z, H, I, rw', q⟩
    by_cases h0 : 0 ≤ i
    · have hj : i.toNat = j := by
        rw [seqIndex_of h0 h5] at h1
        exact Option.some.inj h1
      exact wpAny_getItem_list pl.isList h0 (by omega) (by rw [hj]; simpa using ew) fin
    · have hj : (i + (its.toArray.size : Int)).toNat = j := by
        rw [seqIndex_neg (by omega) h4] at h1
        rw [List.size_toArray, ← hl]
        exact Option.some.inj h1
      exact wpAny_getItem_list_neg pl.isList (by omega) (by rw [List.size_toArray] <;> omega) (by omega) (by rw [hj]; simpa using ew) fin
  · obtain ⟨a, z, rfl, g, q⟩ := h
    cases rx
    exact d_getItem hu I g ry fun w' s' I' rw' => ⟨z, H, I', rw', q⟩
/-- what stands in a list or dict at a key -/
theorem get_rule {c old k : D} {n nk : Nat} {vc vk : V} {Z Zk : AS} (s : Same F H) (rc : RO K F H n c vc Z) (rk : RO K F H nk k vk Zk) (hc : isCon c) (h : opF2 .idx c k = some old) (h0 : ∃ w, Rp0 old w) (Q : VK) (hq : ∀ v, Rp0 old v → Q v H) : rPth K vc vk H Q := by
  have rr := rc.rd s
  cases c with
  | lst ds =>
    obtain ⟨a, xs, rfl, ea, rl⟩ := rr
    cases k with
    | int i =>
      have h : atI ds i = some old := h
      obtain ⟨v, hv, rv⟩ := atI_rp (P := fun d v => Rp K H d v) rl.length (fun i p q h1 h2 => rl.get h1 h2) h
      exact .inl ⟨a, xs, i, v, rfl, rk.int_v, .inl (.inl ea), hv, hq v (RO.r0 (K := K) (F := H) (H := H) (n := 0) (Z := noA) rv h0)⟩
    | _ => cases h
  | dic ds =>
    obtain ⟨a, xs, rfl, ea, rl⟩ := rr
    have h : ((keyOf k)).bind (fun k => valD ds k) = some old := by cases k <;> exact h
    obtain ⟨k', hk, h⟩ := Option.bind_eq_some_iff.mp h
    obtain ⟨i, v, hv, rv⟩ := valD_at (P := fun _ d v => Rp K H d v) rl.length (fun i p q h1 h2 => rl.get h1 h2) h
    rw [key_v hk rk]
    exact .inr ⟨a, v, rfl, hv ▸ DGet.k ea, hq v (RO.r0 (K := K) (F := H) (H := H) (n := 0) (Z := noA) rv h0)⟩
  | _ => exact hc.elim
theorem onPath_con {dd : Bool} {k v d d' : D} {p : List D} (hp : p.length ≤ 1) (h : onPath (setAt dd k v) d p = some d') : ∃ dc, atPath d p = some dc ∧ isCon dc := by
  obtain ⟨dc, dc', hc, hs, _⟩ := onPath_split hp h
  rcases setAt_some hs with ⟨ds, i, j, rfl, _⟩ | ⟨_, ds, k', rfl, _⟩
  · exact ⟨_, hc, True.intro⟩
  · exact ⟨_, hc, True.intro⟩
theorem isConB_ok {d : D} (h : isConB d = true) : isCon d := by cases d <;> first | (cases h; done) | exact True.intro
theorem getAt_some {c k d : D} (h : getAt c k = some d) : isCon c ∧ opF2 .idx c k = some d ∧ ∃ w, Rp0 d w := by
  unfold getAt at h
  by_cases q : isConB c = true
  · rw [if_pos q] at h
    obtain ⟨d', h1, h2⟩ := Option.bind_eq_some_iff.mp h
    by_cases q2 : isVal0 d' = true
    · rw [if_pos q2] at h2; cases h2
      exact ⟨isConB_ok q, h1, by cases d <;> first | (cases q2; done) | exact ⟨_, rfl⟩⟩
    · rw [if_neg q2] at h2; cases h2
  · rw [if_neg q] at h; cases h
theorem sem_augs {tq te tk : TE} {x nk ne : Nat} {bk be : Option Nat} {o : Op2} {ep : Env → R (List D × Env)} {ee ek : Env → R (D × Env)} (hm : m ≤ 1) (sq : SemQ C E tq x m ep T1) (sk : SemP C E tk ek nk T2 bk) (se : SemP C E te ee ne T3 be) (hg : C.g x = m + 1) (hx : x ∉ T2) (hx' : x ∉ T3) (hb : ∀ i, bk = some i → i ∉ T3) :
    SemS C E n (tAugS tq tk te (rPth C.K) (tipA o) rSet) (fun env => (pth x ep env).bind fun ks => (ek ks.2).bind fun l => (getv x l.2).bind fun d => (ofOpt ((atPath d ks.1).bind fun c => getAt c l.1)).bind fun old => (ee l.2).bind fun v => (ofOpt (opA o old v.1)).bind fun new =>
      (getv x v.2).bind fun d => (ofOpt (onPath (setAt true l.1 new) d ks.1)).bind fun d' => .ok (.nx (v.2.set x (some d')))) ((T1 ++ (T2 ++ T3)) ++ [x]) := fun F H σ env S ri D post => by
  refine sq F H σ env S ri _ (post.bind.to (fun i h => by simp at h ⊢; exact .inl h) fun ks _ hp F1 H1 S1 vc st1 ri1 hl pv own => ?_)
  refine sk F1 H1 σ ks.2 S1 ri1 _ (hp.bind.step st1 (fun i h => by simp at h ⊢; exact .inl h) (fun i h => by simp at h ⊢; exact .inr (.inl h)) fun l _ hp F2 H2 S2 vk Zk st2 ri2 rk zk => ?_)
  obtain ⟨d, hd, hp⟩ := getv_ok hp
  obtain ⟨old, hold, hp⟩ := hp.opt
  obtain ⟨c, hc, hold⟩ := Option.bind_eq_some_iff.mp hold
  obtain ⟨hcon, hidx, hv0⟩ := getAt_some hold
  subst hl
  have pv2 := pv.keep ri1 st2 hx own
  have own2 : ks.1.length = 0 ∨ ∃ a, σ[x]? = some (some (.ref a)) ∧ S2 x a := own.imp id fun ⟨a, e, sa⟩ => ⟨a, e, by rw [st2.same x hx]; exact sa⟩
  have st12 := st1.trans st2
  obtain ⟨b, Tc, rfl, rc, ts, _⟩ := mutP (q := 0) ri2 hg hd pv2 hc hcon
  refine get_rule ri2.sub rc rk hcon hidx hv0 _ fun vo ro => ?_
  refine se F2 H2 σ l.2 S2 ri2 _ (hp.bind.step st12 (fun i h => by simp at h ⊢; rcases h with h | h; exact .inl h; exact .inr (.inl h)) (fun i h => by simp at h ⊢; exact .inr (.inr (.inl h))) fun v _ hp F3 H3 S3 vv Zv st3 ri3 rv zv => ?_)
  obtain ⟨new, hnew, hp⟩ := hp.opt
  obtain ⟨d3, hd3, hp⟩ := getv_ok hp
  obtain ⟨d', hd', hp⟩ := hp.opt
  obtain ⟨i1, i2, i3⟩ := opA_in hnew
  have rk3 : RO C.K F3 H3 nk l.1 vk Zk := st3.ro rk fun a z i hi w => hb i ((zk a z).2 i w) hi
  refine tipA_ok hnew ro (rv.r0 i2) fun vn rn => ?_
  have pv3 := pv2.keep ri2 st3 hx' own2
  have st13 : Stp ((T1 ++ (T2 ++ T3)) ++ [x]) F H S F3 H3 S3 := (st1.trans (st2.trans st3)).weak fun _ h => List.mem_append_left _ h
  exact set_core (q := 0) (dd := true) (Z := noA) ri3 hm hg (fun _ => rfl) hd3 pv3 rk3 rn.ro (fun c z => z.elim) hd' st13 (by simp) (fun c z => z.elim) _ fun H' S' stn rin => hp F3 H' S' σ stn rin fun _ _ => rfl
theorem sem_aug {te : TE} {x ne : Nat} {be : Option Nat} {o : Op2} {ee : Env → R (D × Env)} (se : SemP C E te ee ne T be) (hx : x ∉ T) (hi : x ∉ C.io) :
    SemS C E n (tAug x te (tipA o)) (fun env => (getv x env).bind fun old => (ee env).bind fun v => (ofOpt (opA o old v.1)).bind fun new => .ok (.nx (v.2.set x (some new)))) (T ++ [x]) := fun F H σ env S ri D post => by
  obtain ⟨old, hold, post⟩ := getv_ok post
  obtain ⟨vo, e, ro⟩ := ri.cell x old hold
  refine ⟨vo, e, se F H σ env S ri _ (post.bind.to (fun _ h => List.mem_append_left _ h) fun v _ hp F1 H1 S1 vv Zv st1 ri1 rv zv => ?_)⟩
  obtain ⟨new, hnew, hp⟩ := hp.opt
  obtain ⟨i1, i2, i3⟩ := opA_in hnew
  refine tipA_ok hnew (ro.r0 i1) (rv.r0 i2) fun vn rn => ?_
  have st' : Stp (T ++ [x]) F H S F1 H1 S1 := st1.weak fun _ h => List.mem_append_left _ h
  exact hp F1 H1 _ _ (st'.setN (by simp) Frs.none) (ri1.setN (rn.ro (n := C.g x)) fun a z => z.elim) (set_io hi)

/-! ### x.pop(), x.pop(i) -/
theorem popOf_some {dc : D} {as : List D} {z : D × D} (h : popOf dc as = some z) : ∃ ds j, dc = .lst ds ∧ ds[j]? = some z.1 ∧ z.2 = .lst (ds.eraseIdx j) ∧ ((as = [] ∧ j = ds.length - 1) ∨ ∃ i, as = [.int i] ∧ -4611686018427387904 ≤ i ∧ i < 4611686018427387904 ∧ ixN ds.length i = some j) := by
  cases dc with
  | lst ds =>
    match as, h with
    | [], h =>
      have h : (ds.getLast?).bind (fun y => some (y, D.lst ds.dropLast)) = some z := h
      obtain ⟨y, hy, h⟩ := Option.bind_eq_some_iff.mp h
      cases h
      rw [List.getLast?_eq_getElem?] at hy
      exact ⟨ds, ds.length - 1, rfl, hy, by rw [PyProof.Rows.Copied.eraseIdx_last], .inl ⟨rfl, rfl⟩⟩
    | [.int i], h =>
      have h : (if -4611686018427387904 ≤ i ∧ i < 4611686018427387904 then (ixN ds.length i).bind fun j => (ds[j]?).bind fun y => some (y, D.lst (ds.eraseIdx j)) else none) = some z := h
      by_cases c : -4611686018427387904 ≤ i ∧ i < 4611686018427387904
      · rw [if_pos c] at h
        obtain ⟨j, hj, h⟩ := Option.bind_eq_some_iff.mp h
        obtain ⟨y, hy, h⟩ := Option.bind_eq_some_iff.mp h
        cases h
        exact ⟨ds, j, rfl, hy, rfl, .inr ⟨i, rfl, c.1, c.2, hj⟩⟩
      · rw [if_neg c] at h; cases h
  | _ => cases as <;> first | (cases h; done) | (rename_i a r; cases r <;> cases h)
/-- what follows when an item is taken -/
theorem pop_core {σ : L2.St} {env : Env} {x : Nat} {p as : List D} {vc : V} {d dc : D} {z : D × D} {d' : D} (ri : RI K G F H σ env S) (hg : G x = p.length + (q + 1)) (hx : gt env x = some d) (hp : PthV σ H x p vc) (hc : atPath d p = some dc) (hz : popOf dc as = some z) (ho : onPath (fun _ => some z.2) d p = some d')
    {T : List Nat} (st : Stp T F0 H0 S0 F H S) (hT : x ∈ T) : ∃ b xs j y, vc = .ref b ∧ H b = some (.lst xs) ∧ xs[j]? = some y ∧ ((as = [] ∧ j = xs.length - 1) ∨ ∃ i, as = [.int i] ∧ -4611686018427387904 ≤ i ∧ i < 4611686018427387904 ∧ ixN xs.length i = some j) ∧
      ∃ S' P, Stp T F0 H0 S0 F (upd H b (.lst (xs.eraseIdx j))) S' ∧ RI K G F (upd H b (.lst (xs.eraseIdx j))) σ (env.set x (some d')) S' ∧ RO K F (upd H b (.lst (xs.eraseIdx j))) q z.1 y P ∧ Frs T H0 S0 (upd H b (.lst (xs.eraseIdx j))) S' P := by
  obtain ⟨ds, j, rfl, hj, hz2, has⟩ := popOf_some hz
  obtain ⟨b, Tc, rfl, rc, ts, mk⟩ := mutP ri hg hx hp hc True.intro
  obtain ⟨b', xs, eb, hb, tb, fb, hl⟩ := rc.lst_at
  cases eb
  obtain ⟨hj', _⟩ := List.getElem?_eq_some_iff.mp hj
  have hj2 : j < xs.length := by omega
  obtain ⟨P, W, r1, r2, w1, w2, w3⟩ := rc.eraL hb (List.getElem?_eq_getElem hj2) hj
  rw [hz2] at ho
  obtain ⟨stn, rin⟩ := mk (.lst (xs.eraseIdx j)) _ W noA r1 (fun c w => .inl (w1 c w)) (fun c w => w.elim) d' ho st hT fun c w => w.elim
  refine ⟨b, xs, j, xs[j], rfl, hb, List.getElem?_eq_getElem hj2, by rw [← hl]; exact has, _, P, stn, rin, r2, fun c w => ?_⟩
  have sc : S x c := ts c (w2 c w)
  refine ⟨?_, ?_, fun l w' => ?_⟩
  · obtain ⟨o, e⟩ := ri.lv x c sc
    by_cases cb : c = b
    · subst cb; exact ⟨_, upd_same⟩
    · exact ⟨o, by rw [upd_ne cb]; exact e⟩
  · rcases st.fp x c sc with h | ⟨i, hi, h⟩ | h
    · exact .inr ⟨x, hT, h⟩
    · exact .inr ⟨i, hi, h⟩
    · exact .inl h
  · by_cases hlx : l = x
    · subst hlx
      rw [updS_same] at w'
      exact w'.elim (fun w' => w'.2 (w2 c w)) (w3 c w)
    · rw [updS_ne hlx] at w'
      exact hlx (ri.dj l x c w' sc)
theorem sem_pop0 {tq : TE} {x : Nat} {ep : Env → R (List D × Env)} (sq : SemQ C E tq x m ep T1) (hg : C.g x = m + (q + 1)) :
    SemE C E (tBM0 C.K "list" rPop tq) (fun env => (pth x ep env).bind fun p => (getv x p.2).bind fun d => (ofOpt ((atPath d p.1).bind isLst)).bind fun _ => (R.ok (([] : List D), p.2)).bind fun q => (getv x q.2).bind fun x' => (ofOpt (atPath x' p.1)).bind fun y => (ofOpt (popOf y q.1)).bind fun z =>
      (ofOpt (onPath (fun _ => some z.2) x' p.1)).bind fun x'' => .ok (z.1, q.2.set x (some x''))) q (T1 ++ [x]) := fun F H σ env S ri Q post => by
  refine sq F H σ env S ri _ (post.bind.to (fun _ h => List.mem_append_left _ h) fun ks _ hp F1 H1 S1 vc st1 ri1 hl pv own => ?_)
  obtain ⟨d1, hd1, hp⟩ := getv_ok hp
  obtain ⟨u, hu, hp⟩ := hp.opt
  obtain ⟨d, hd, hp⟩ := getv_ok (show Post C E _ F H S ((getv x ks.2).bind _) _ from hp)
  obtain ⟨dc, hc, hp⟩ := hp.opt
  obtain ⟨z, hz, hp⟩ := hp.opt
  obtain ⟨d', hd', hp⟩ := hp.opt
  subst hl
  have st1' : Stp (T1 ++ [x]) F H S F1 H1 S1 := st1.weak fun _ h => List.mem_append_left _ h
  obtain ⟨b, xs, j, y, rfl, hb, hj, has, S', P, stn, rin, ro, fr⟩ := pop_core ri1 hg hd pv hc hz hd' st1' (by simp)
  rcases has with ⟨_, rfl⟩ | ⟨i, e, _⟩
  · refine ⟨.inl ⟨rfl, xs, .inl (.inl hb)⟩, b, xs, y, rfl, rfl, hb, hj, ?_⟩
    rw [PyProof.Rows.Copied.eraseIdx_last] at stn rin ro fr
    exact hp F1 _ S' y P stn rin ro fr
  · cases e
theorem sem_pop1 {tq tk : TE} {x nk : Nat} {bk : Option Nat} {ep : Env → R (List D × Env)} {ek : Env → R (D × Env)} (sq : SemQ C E tq x m ep T1) (sk : SemP C E tk ek nk T2 bk) (hg : C.g x = m + (q + 1)) (hx : x ∉ T2) :
    SemE C E (tBM C.K "list" rPopAt tq (tCons tk tNil)) (fun env => (pth x ep env).bind fun p => (getv x p.2).bind fun d => (ofOpt ((atPath d p.1).bind isLst)).bind fun _ => ((ek p.2).bind fun k => R.ok ([k.1], k.2)).bind fun q => (getv x q.2).bind fun x' => (ofOpt (atPath x' p.1)).bind fun y => (ofOpt (popOf y q.1)).bind fun z =>
      (ofOpt (onPath (fun _ => some z.2) x' p.1)).bind fun x'' => .ok (z.1, q.2.set x (some x''))) q ((T1 ++ T2) ++ [x]) := fun F H σ env S ri Q post => by
  refine sq F H σ env S ri _ (post.bind.to (fun _ h => List.mem_append_left _ (List.mem_append_left _ h)) fun ks _ hp F1 H1 S1 vc st1 ri1 hl pv own => ?_)
  obtain ⟨d1, hd1, hp⟩ := getv_ok hp
  obtain ⟨u, hu, hp⟩ := hp.opt
  obtain ⟨dc1, hc1, hu⟩ := Option.bind_eq_some_iff.mp hu
  obtain ⟨ds1, rfl⟩ := isLst_some hu
  subst hl
  obtain ⟨b, Tc, rfl, rc, _, _⟩ := mutP ri1 hg hd1 pv hc1 True.intro
  obtain ⟨b', xs, eb, hb, _⟩ := rc.lst_at
  cases eb
  refine ⟨.inl ⟨rfl, xs, .inl (.inl hb)⟩, ?_⟩
  refine sk F1 H1 σ ks.2 S1 ri1 _ (hp.bind.bind.step st1 (fun _ h => List.mem_append_left _ (List.mem_append_left _ h)) (fun _ h => List.mem_append_left _ (List.mem_append_right _ h)) fun k _ hp F2 H2 S2 vk Zk st2 ri2 rk zk => ?_)
  obtain ⟨d, hd, hp⟩ := getv_ok (show Post C E _ F H S ((getv x k.2).bind _) _ from hp)
  obtain ⟨dc, hc, hp⟩ := hp.opt
  obtain ⟨z, hz, hp⟩ := hp.opt
  obtain ⟨d', hd', hp⟩ := hp.opt
  have pv2 := pv.keep ri1 st2 hx own
  have st12 : Stp ((T1 ++ T2) ++ [x]) F H S F2 H2 S2 := (st1.trans st2).weak fun _ h => List.mem_append_left _ h
  obtain ⟨b2, xs2, j, y, eb, hb2, hj, has, S', P, stn, rin, ro, fr⟩ := pop_core ri2 hg hd pv2 hc hz hd' st12 (by simp)
  cases eb
  rcases has with ⟨e, _⟩ | ⟨i, e, h1, h2, hj'⟩
  · cases e
  · have e : k.1 = .int i := by simpa using e
    rw [e] at rk
    exact ⟨b, xs2, i, j, y, rfl, by rw [rk.int_v], hb2, by omega, by omega, (ixN_seq hj').1, hj, hp F2 _ S' y P stn rin ro fr⟩

/-! ### new dicts -/
theorem sem_dnewK : SemE C E tDNewK (fun env => .ok (.dic [], env)) (n + 1) T := fun F H σ env S ri Q post => fun p hp => by
  have ext : Ext F H F (upd H p (.dK [])) := Ext.new ri.sub hp
  refine post F _ S (.ref p) (fun b => b = p) ext.stp (ri.ext ext) ⟨p, [], fun _ => noA, rfl, upd_same, ri.sub.free hp, rfl, rfl, fun _ _ w => w.elim, fun _ _ _ w => w.elim, fun i a b h1 _ => by simp at h1⟩ fun b hb => ?_
  cases hb
  exact ⟨⟨_, upd_same⟩, .inl hp, fun i => ri.new hp⟩
end
end DL
/-! DLD: plain facts about a program's text. -/
namespace DL
open PySem PySem.Spec PyProof.Rows L2

def noStar : Expr → Bool
  | .Starred _ _ => false
  | _ => true
def noSlice : Expr → Bool
  | .Slice _ _ _ _ => false
  | _ => true
/-- its test is the truth of its value -/
def plainT : Expr → Bool
  | .UnaryOp .Not _ _ => false
  | .BoolOp _ _ _ => false
  | .IfExp _ _ _ _ => false
  | .Compare _ _ _ _ => false
  | _ => true
def noSet : Expr → Bool
  | .Set _ _ _ => false
  | _ => true
def noComp : Expr → Bool
  | .ListComp _ _ _ _ => false
  | .SetComp _ _ _ _ => false
  | .DictComp _ _ _ _ _ => false
  | _ => true
def noCall : Expr → Bool
  | .Call _ _ _ _ => false
  | _ => true
theorem star_ok {e : Expr} {es : List Expr} {env : PySem.Env} (h : noStar e = true) : starEach (e :: es) env = (false, eval e env) :: starEach es env := by
  cases e <;> first | rfl | (cases h; done)
theorem ix_ok {e : Expr} (h : noSlice e = true) : PlainIx e := by
  intro o i
  cases e <;> first | rfl | (cases h; done)
theorem aug_ok {e : Expr} (h : noSlice e = true) (ov iv new : Value) : augStore e ov iv new = (do holding [new, ov, iv] (setItem ov iv new); release [new, ov, iv] []; pure .next) := by
  cases e <;> first | rfl | (cases h; done)
theorem test_ok {e : Expr} {env : PySem.Env} (h : plainT e = true) : ∀ whole, PySem.isTrue e env whole = (do let v ← whole; standAt e.pos; holding [v] (truthy v)) := by
  intro whole
  cases e <;> first | rfl | (cases h; done) | skip
  case UnaryOp op a pos => cases op <;> first | rfl | (cases h; done)
theorem set_ok {e : Expr} {env : PySem.Env} (h : noSet e = true) : ∀ x, foldedSetIterable e env x = pure x := by
  intro x
  cases e <;> first | rfl | (cases h; done)
theorem base_ok {e : Expr} {env : PySem.Env} {m : Str} {w : Sem Value} (h : noCall e = true) : attributeBase e m env w = w := by
  cases e <;> first | rfl | (cases h; done)
theorem swaps_ok {e : Expr} {t : Option Expr} {line : Nat} {env : PySem.Env} (h : noComp e = true) : swapsWith e t line env = pure false := by
  cases e <;> first | rfl | (cases h; done)
theorem mark_ok {e : Expr} {op : CmpOp} (h : noSet e = true) : behindInMarks op e = false := by
  cases e <;> first | rfl | (cases h; done)
theorem marks_ok {a b : Expr} {op op' : CmpOp} (h : noSet b = true) : lastMarks [op, op'] [a, b] = false := mark_ok h
/-- no star among them -/
def noStars : List Expr → Bool
  | [] => true
  | e :: es => noStar e && noStars es
theorem stars_any {es : List Expr} {env : PySem.Env} {pos : Pos} (h : noStars es = true) : (backTo pos (starEach es env)).any (·.1) = false := by
  induction es with
  | nil => rfl
  | cons e es ih =>
    have h : (noStar e && noStars es) = true := h
    rw [Bool.and_eq_true] at h
    rw [star_ok h.1]
    exact ih h.2
theorem one_few {e : Expr} {env : PySem.Env} {pos : Pos} (h : noStar e = true) : ((backTo pos (starEach [e] env)).all (fun x => !x.1) && (backToKw pos (keywordEach [] env)).all (fun x => x.1.isSome)
      && decide ([e].length + ([] : List Keyword).length + (if ([] : List Keyword).isEmpty then 0 else 1) < 30)) = true := by
  rw [star_ok h]
  rfl

/-! ### comprehension's scopes -/
def nmEq (a b : Str × Nat) : Bool := a.1 == b.1 && a.2 == b.2
def blkOk (N : List Str) (sc scope : Scope) (own : List (Str × Nat)) : Bool :=
  decide (scope.kind = .function) && (scope.names.all fun y => decide (scope.names.lookup y.1 = some y.2)) && (own.all fun p => decide (N[p.2]? = some p.1)) &&
    (scope.names.all fun y => !decide (y.2 = .free) || decide (sc.names.lookup y.1 = some .cell) || decide (sc.names.lookup y.1 = some .free)) &&
    (scope.names.all fun y => !(decide (y.2 = .local) || decide (y.2 = .cell)) || decide (y.1 ∈ own.map (·.1)) || decide (y.1 ∉ N))
theorem blkOk_ok {N : List Str} {sc scope : Scope} {own : List (Str × Nat)} (h : blkOk N sc scope own = true) : BlkOk N sc scope own := by
  unfold blkOk at h
  simp only [Bool.and_eq_true, List.all_eq_true, decide_eq_true_eq, Bool.or_eq_true, Bool.not_eq_true', decide_eq_false_iff_not] at h
  obtain ⟨⟨⟨⟨h1, h2⟩, h3⟩, h4⟩, h5⟩ := h
  refine ⟨h1, h2, h3, fun y hy e => ?_, fun y hy e => ?_⟩
  · rcases h4 y hy with (q | q) | q
    · exact absurd e q
    · exact .inl q
    · exact .inr q
  · rcases h5 y hy with (q | q) | q
    · rcases e with e | e
      · have : ¬(y.2 = .local ∨ y.2 = .cell) := by
          intro z
          simp [e] at q
        exact absurd (.inl e) this
      · simp [e] at q
    · exact .inl q
    · exact .inr q
end DL
/-! DLE: the checker: does a term of the small language read that text? -/
namespace DL
open PySem PySem.Spec PyProof.Rows L2

/-- what the checker knows of the function at hand -/
structure CI where
  N : List Str
  G : List Nat
  io : List Nat
  tbl : List Fd
  bl : List Str
  gl : List Nat
def CI.g (I : CI) (i : Nat) : Nat := I.G.getD i 0
def CC.ci (C : CC) : CI := ⟨C.N, C.G, C.io, C.tbl, C.bl, C.gl⟩

def loc (sc : Scope) (x : Str) : Bool := decide (sc.names.lookup x = some .local) || decide (sc.names.lookup x = some .cell)
def vis (sc : Scope) (x : Str) : Bool := decide (sc.names.lookup x = some .local) || (decide (sc.names.lookup x = some .cell) || decide (sc.names.lookup x = some .free))
def glb (sc : Scope) (x : Str) : Bool := decide (sc.names.lookup x = some .globalImplicit) && !(x == ("__debug__" : Str)) && !(decide (x = "__name__"))
/-- a built-in name that the module does not hide; *factorial: the module has it of math -/
def BlOk (mg : Str → Option Value) (x : Str) : Prop := if x = "*factorial" then mg "factorial" = some (.builtin "math.factorial") else mg x = none
theorem BlOk.no {mg : Str → Option Value} {x : Str} (h : decide (x = ("*factorial" : Str)) = false) (m : mg x = none) : BlOk mg x := by
  unfold BlOk; rw [if_neg (of_decide_eq_false h)]; exact m
theorem BlOk.fac {mg : Str → Option Value} (m : mg "factorial" = some (.builtin "math.factorial")) : BlOk mg "*factorial" := by
  unfold BlOk; rw [if_pos rfl]; exact m
def blt (I : CI) (sc : Scope) (x : Str) : Bool := glb sc x && (decide (x ∈ I.bl) && !decide (x = "*factorial"))
def isFac (I : CI) (sc : Scope) : Expr → Bool
  | .Name x _ => decide (x = "factorial") && glb sc x && decide (("*factorial" : Str) ∈ I.bl)
  | _ => false
def isVar (I : CI) (sc : Scope) (i : Nat) : Expr → Bool
  | .Name x _ => decide (I.N[i]? = some x) && vis sc x && !(x == ("__debug__" : Str)) && !(x == ("__classdict__" : Str))
  | _ => false
def isBlt (I : CI) (sc : Scope) (n : Str) : Expr → Bool
  | .Name x _ => decide (x = n) && blt I sc x
  | _ => false

def binAst : Operator → Option Op2
  | .Add => some .add
  | .Sub => some .sub
  | .Mult => some .mul
  | .FloorDiv => some .fdiv
  | .Mod => some .mod
  | .Pow => some .pow
  | .LShift => some .shl
  | .RShift => some .shr
  | .BitXor => some .bxor
  | .BitAnd => some .band
  | _ => none
def cmpAst : CmpOp → Option Op2
  | .Lt => some .lt
  | .LtE => some .le
  | .Gt => some .gt
  | .GtE => some .ge
  | .Eq => some .eq
  | .NotEq => some .ne
  | .In => some .inn
  | .NotIn => some .nin
  | .Is => some .is
  | .IsNot => some .nis
/-! ### depths, slots touched -/
def lv1 : Op1 → Nat
  | .rev => 1
  | _ => 9
def lv2 : Op2 → Nat
  | .lt => 9 | .le => 9 | .gt => 9 | .ge => 9 | .eq => 9 | .ne => 9 | .inn => 9 | .nin => 9 | .is => 9 | .nis => 9
  | .idx => 0 | .pix => 0 | .pixd => 0
  | _ => 1
/-- its operands owned no deeper than 1 -/
def al2 : Op2 → Bool
  | .lt => false | .le => false | .gt => false | .ge => false | .eq => false | .ne => false | .inn => false | .nin => false | .is => false | .nis => false
  | _ => true
def lvb1 : B1 → Nat
  | .list => 1 | .tuple => 1 | .sorted => 1 | .dict => 1 | .rng => 1 | .srev => 1
  | _ => 9
def alb1 : B1 → Bool
  | .list => true | .tuple => true | .sorted => true | .dict => true | .rng => true | .srev => true
  | _ => false
def lvb2 : B2 → Nat
  | .rng => 1
  | _ => 9
def alb2 : B2 → Bool
  | .rng => true
  | _ => false
def lenEs : Exs → Nat
  | .nil => 0
  | .cons _ r => lenEs r + 1
mutual
def lvE (I : CI) : Ex → Nat
  | .var _ => 0
  | .mv i => I.g i
  | .io _ => 0
  | .int _ => 9
  | .str _ => 9
  | .bl _ => 9
  | .non => 9
  | .un o _ => lv1 o
  | .bin o _ _ => lv2 o
  | .chain _ _ _ _ _ => 9
  | .nt _ => 9
  | .band _ => 0
  | .bor _ => 0
  | .ite _ a b => min (lvE I a) (lvE I b)
  | .lst es => lvEs I es + 1
  | .tup _ => 9
  | .slc _ _ _ _ _ => 1
  | .call f _ => match I.tbl[f]? with
    | some fd => fd.rt
    | none => 0
  | .b1 o _ => lvb1 o
  | .b2 o _ _ => lvb2 o
  | .m1 _ _ _ => 9
  | .isi _ _ _ => 9
  | .lc _ _ _ e => lvE I e + 1
  | .dc _ _ _ _ _ => 1
  | .lc2 _ _ _ _ _ _ e => lvE I e + 1
  | .dnew _ => 9
  | .ddsp _ => 1
  | .glo _ => 0
  | .pop i p _ => I.g i - lenEs p - 1
  | .bad => 0
def lvEs (I : CI) : Exs → Nat
  | .nil => 9
  | .cons e r => min (lvE I e) (lvEs I r)
end
def isPix : Op2 → Bool
  | .pix => true
  | .pixd => true
  | _ => false
/-- the depth, the slot, of a value that may be borrowed -/
def lvP (I : CI) : Ex → Nat
  | .var i => I.g i
  | .bin o a b => if isPix o = true then lvP I a - 1 else min (lv2 o) 1
  | e => min (lvE I e) 1
def brw (I : CI) : Ex → Option Nat
  | .var i => if I.g i = 0 then none else some i
  | .bin o a _ => if isPix o = true then brw I a else none
  | _ => none
mutual
def tE : Ex → List Nat
  | .mv i => [i]
  | .un _ a => tE a
  | .bin _ a b => tE a ++ tE b
  | .chain _ _ a b c => tE a ++ (tE b ++ tE c)
  | .nt a => tE a
  | .band es => tEs es
  | .bor es => tEs es
  | .ite c a b => tT c ++ (tE a ++ tE b)
  | .lst es => tEs es
  | .tup es => tEs es
  | .slc _ _ a b c => tE a ++ (tE b ++ tE c)
  | .call _ es => tEs es ++ ioOf es
  | .b1 _ a => tE a
  | .b2 _ a b => tE a ++ tE b
  | .m1 _ a b => tE a ++ tE b
  | .isi a _ _ => tE a
  | .lc _ w c e => tW w ++ (tTs c ++ tE e)
  | .dc _ w c k v => tW w ++ (tTs c ++ (tE k ++ tE v))
  | .pop i p es => (tEs p ++ tEs es) ++ [i]
  | .ddsp kvs => tEs kvs
  | _ => []
def tEs : Exs → List Nat
  | .nil => []
  | .cons e r => tE e ++ tEs r
def tT : Ts → List Nat
  | .val e => tE e
  | .tru e => tE e
  | .nt t => tT t
  | .and ts => tTs ts
  | .or ts => tTs ts
def tTs : Tss → List Nat
  | .nil => []
  | .cons t r => tT t ++ tTs r
def tW : Wk → List Nat
  | .rng1 a => tE a
  | .rng2 a b => tE a ++ tE b
  | .rng3 a b c => tE a ++ (tE b ++ tE c)
  | .it a => tE a
  | .zip a b => tE a ++ tE b
  | .enum a => tE a
end
def brwW (I : CI) : Wk → Option Nat
  | .it a => brw I a
  | .zip a b => if (brw I a).isSome = true then brw I a else brw I b
  | .enum a => brw I a
  | _ => none
/-- the slot b is not among T -/
def free (b : Option Nat) (T : List Nat) : Bool := match b with
  | some i => decide (i ∉ T)
  | none => true
theorem free_ok {b : Option Nat} {T : List Nat} (h : free b T = true) : ∀ i, b = some i → i ∉ T := fun i e => by
  subst e
  exact of_decide_eq_true h

/-! ### targets -/
def ckNames (I : CI) (sc raw : Scope) : List Nat → List Expr → Bool
  | [], [] => true
  | i :: is, .Name x _ :: es => decide (I.N[i]? = some x) && (decide (sc.names.lookup x = some .local) || (decide (sc.names.lookup x = some .cell) && decide (raw.names.lookup x = some .cell))) && decide (I.g i = 0) && ckNames I sc raw is es
  | _, _ => false
def ckG (I : CI) (sc raw : Scope) : Tg → Expr → Bool
  | .one i, e => ckNames I sc raw [i] [e]
  | .tup is, .Tuple es _ _ => ckNames I sc raw is es
  | _, _ => false
/-- a comprehension's own names -/
def ownOf (I : CI) (g : Tg) : List (Str × Nat) := (tgs g).filterMap fun i => (I.N[i]?).map fun x => (x, i)

def b1Nm : B1 → Str
  | .len => "len" | .list => "list" | .tuple => "tuple" | .sorted => "sorted" | .sum => "sum" | .min => "min" | .max => "max" | .int => "int" | .abs => "abs" | .all => "all" | .any => "any" | .dict => "dict"
  | _ => "?"
def b1Ok : B1 → Bool
  | .str => false | .ord => false | .rng => false | .fact => false | .lss => false | .srev => false
  | _ => true
def b2Nm : B2 → Str
  | .min => "min" | .max => "max"
  | _ => "?"
def b2Ok : B2 → Bool
  | .min => true | .max => true
  | _ => false
def tyNm : Ty → Str
  | .int => "int" | .bool => "bool" | .str => "str" | .list => "list" | .tuple => "tuple" | .dict => "dict"
def ckTyL (I : CI) (sc : Scope) : List Ty → List Expr → Bool
  | [], [] => true
  | t :: ts, e :: es => isBlt I sc (tyNm t) e && noStar e && ckTyL I sc ts es
  | _, _ => false
/-- one type, or a tuple of types -/
def ckTys (I : CI) (sc : Scope) (ts : List Ty) : Expr → Bool
  | .Tuple es _ _ => ckTyL I sc ts es && decide (ts.length ≤ 1000)
  | e => match ts with
    | [t] => isBlt I sc (tyNm t) e
    | _ => false
def cmp2 : Op2 → Bool
  | .lt => true | .le => true | .gt => true | .ge => true | .eq => true | .ne => true | .inn => true | .nin => true | .is => true | .nis => true
  | _ => false
/-- the arguments' places fit the callee's -/
def ioFit (I : CI) (fd : Fd) : Nat → Exs → Bool
  | j, .nil => decide (j = fd.np)
  | j, .cons (.io x) r => decide (fd.io[j]? = some true) && decide (fd.g j = I.g x) && ioFit I fd (j + 1) r
  | j, .cons _ r => !decide (fd.io[j]? = some true) && decide (fd.g j = 0) && ioFit I fd (j + 1) r
mutual
def ck (I : CI) (sc : Scope) (p : Bool) : Ex → Expr → Bool
  | .var i, e => isVar I sc i e && (p || decide (I.g i = 0))
  | .mv i, e => isVar I sc i e
  | .int z, e => match e with
    | .Constant (.int z') _ _ => decide (z = z')
    | _ => false
  | .str z, e => match e with
    | .Constant (.str z') _ _ => decide (z = z')
    | _ => false
  | .bl z, e => match e with
    | .Constant (.bool z') _ _ => decide (z = z')
    | _ => false
  | .non, e => match e with
    | .Constant .none _ _ => true
    | _ => false
  | .un o a, e => match o, e with
    | .neg, .UnaryOp .USub b _ => ck I sc true a b
    | .isN, .Compare l [.Is] [.Constant .none _ _] _ => ck I sc true a l
    | .notN, .Compare l [.IsNot] [.Constant .none _ _] _ => ck I sc true a l
    | .rev, .Subscript b (.Slice none none (some (.UnaryOp .USub (.Constant (.int 1) _ _) _)) _) _ => ck I sc true a b && decide (lvP I a ≤ 1)
    | _, _ => false
  | .bin o a b, e => match e with
    | .BinOp l op r _ => decide (binAst op = some o) && ck I sc true a l && ck I sc true b r && free (brw I a) (tE b) && decide (lvP I a ≤ 1) && decide (lvP I b ≤ 1)
    | .Compare l [op] [r] _ => decide (cmpAst op = some o) && ck I sc true a l && ck I sc true b r && free (brw I a) (tE b) && noSet r
    | .Subscript l r _ => ck I sc true a l && ck I sc true b r && free (brw I a) (tE b) && noSlice r && ((decide (o = .idx) && decide (lvP I a ≤ 1) && decide (lvP I b ≤ 1)) || (p && isPix o && decide (2 ≤ lvP I a)))
    | _ => false
  | .chain o o' a b c, e => match e with
    | .Compare l [op, op'] [m, r] _ => decide (cmpAst op = some o) && decide (cmpAst op' = some o') && ck I sc true a l && ck I sc true b m && ck I sc true c r && free (brw I a) (tE b) && free (brw I b) (tE c) && noSet r && decide (lvP I b ≤ 1) && free (brw I a) (tE c)
    | _ => false
  | .nt a, e => match e with
    | .UnaryOp .Not x _ => ck I sc false a x
    | _ => false
  | .band es, e => match e with
    | .BoolOp .And xs _ => ckVs I sc es xs
    | _ => false
  | .bor es, e => match e with
    | .BoolOp .Or xs _ => ckVs I sc es xs
    | _ => false
  | .ite c a b, e => match e with
    | .IfExp t x y _ => ckT I sc c t && ck I sc false a x && ck I sc false b y
    | _ => false
  | .lst es, e => match e with
    | .List xs _ => ckEs I sc es xs && decide (lenEs es ≤ 1000)
    | _ => false
  | .tup es, e => match e with
    | .Tuple xs _ _ => ckEs I sc es xs && decide (lenEs es ≤ 1000)
    | _ => false
  | .slc lo hi a b c, e => match e with
    | .Subscript x (.Slice l h none _) _ => ck I sc true a x && decide (lvP I a ≤ 1) && free (brw I a) (tE b ++ tE c) && (match lo, l with
        | true, some y => ck I sc true b y
        | false, none => true
        | _, _ => false) && (match hi, h with
        | true, some y => ck I sc true c y
        | false, none => true
        | _, _ => false)
    | _ => false
  | .call f es, e => match e with
    | .Call (.Name x _) xs [] _ => (match I.tbl[f]? with
        | some fd => decide (fd.nm = x) && glb sc x && ioFit I fd 0 es && decide ((ioOf es).Nodup) && (fd.io.length ≤ fd.np) && decide (f ∉ I.gl)
        | none => false) && ckAs I sc es xs && noStars xs
    | _ => false
  | .b1 o a, e => match e with
    | .Call f [x] [] _ => noStar x && ((b1Ok o && isBlt I sc (b1Nm o) f && ck I sc true a x && (!alb1 o || decide (lvP I a ≤ 1))) ||
        (decide (o = .rng) && isBlt I sc "list" f && (match x with
          | .Call f' [y] [] _ => noStar y && isBlt I sc "range" f' && ck I sc true a y && decide (lvP I a ≤ 1)
          | _ => false)) ||
        (decide (o = .fact) && isFac I sc f && ck I sc true a x) ||
        (decide (o = .lss) && isBlt I sc "len" f && (match x with
          | .Call f' [y] [] _ => isBlt I sc "sorted" f' && (match y with
            | .Call f'' [z] [] _ => noStar z && isBlt I sc "set" f'' && ck I sc true a z && decide (lvP I a ≤ 1)
            | _ => false)
          | _ => false)))
    | .Call f [x] [⟨some kw, .Constant (.bool true) _ _, _⟩] _ => noStar x && decide (o = .srev) && decide (kw = "reverse") && isBlt I sc "sorted" f && ck I sc true a x && decide (lvP I a ≤ 1)
    | _ => false
  | .b2 o a b, e => match e with
    | .Call f [x, y] [] _ => noStar x && noStar y && b2Ok o && isBlt I sc (b2Nm o) f && ck I sc true a x && ck I sc true b y && free (brw I a) (tE b)
    | .Call f [x] [] _ => noStar x && decide (o = .rng) && isBlt I sc "list" f && (match x with
          | .Call f' [y, z] [] _ => noStar y && noStar z && isBlt I sc "range" f' && ck I sc true a y && ck I sc true b z && free (brw I a) (tE b) && decide (lvP I a ≤ 1) && decide (lvP I b ≤ 1)
          | _ => false)
    | _ => false
  | .m1 o a b, e => match e with
    | .Call (.Attribute x m apos) [y] [] cpos => (decide (o = .index) && decide (m = "index") || decide (o = .count) && decide (m = "count")) && noStar y && noCall x && (apos.endLine == cpos.line) && ck I sc true a x && ck I sc true b y && free (brw I a) (tE b)
    | _ => false
  | .lc g w c e, x => match x with
    | .ListComp elt [⟨tg, iter, ifs, k⟩] scope _ => decide (k = 0) && blkOk I.N sc scope (ownOf I g) && decide ((ownOf I g).map (·.2) = tgs g) && ckG I (relS scope sc) scope g tg && ckW I sc w tg iter && noSet iter && ckTss I (relS scope sc) c ifs && ck I (relS scope sc) false e elt && free (brwW I w) (tTs c ++ tE e)
    | _ => false
  | .dc g w c k v, x => match x with
    | .DictComp kx vx [⟨tg, iter, ifs, n⟩] scope _ => decide (n = 0) && blkOk I.N sc scope (ownOf I g) && decide ((ownOf I g).map (·.2) = tgs g) && ckG I (relS scope sc) scope g tg && ckW I sc w tg iter && noSet iter && ckTss I (relS scope sc) c ifs && ck I (relS scope sc) false k kx && ck I (relS scope sc) false v vx && free (brwW I w) (tTs c ++ (tE k ++ tE v))
    | _ => false
  | .dnew t, e => match e with
    | .Dict [] [] _ => !t
    | _ => false
  | .isi a _ ts, e => match e with
    | .Call f [x, t] [] _ => noStar x && noStar t && isBlt I sc "isinstance" f && ck I sc true a x && ckTys I sc ts t
    | _ => false
  | .ddsp kvs, e => match e with
    | .Dict ks vs _ => ckDD I sc kvs ks vs && !ks.isEmpty && decide (ks.length ≤ 15)
    | _ => false
  | .glo f, e => match e with
    | .Name x _ => decide (f ∈ I.gl) && glb sc x && (match I.tbl[f]? with
        | some fd => decide (fd.nm = x)
        | none => false)
    | _ => false
  | .pop i q es, e => match e with
    | .Call (.Attribute x m apos) ys [] cpos => decide (m = "pop") && noCall x && (apos.endLine == cpos.line) && ckQ I sc i q x && decide (lenEs q + 1 ≤ I.g i) && ckPa I sc i es ys
    | _ => false
  | _, _ => false
/-- a path from the slot x -/
def ckQ (I : CI) (sc : Scope) (x : Nat) : Exs → Expr → Bool
  | .nil, e => isVar I sc x e
  | .cons k .nil, .Subscript l r _ => isVar I sc x l && ck I sc true k r && noSlice r && decide (x ∉ tE k)
  | _, _ => false
/-- keys and values in turn -/
def ckDD (I : CI) (sc : Scope) : Exs → List (Option Expr) → List Expr → Bool
  | .nil, [], [] => true
  | .cons k (.cons v r), some a :: ks, b :: vs => ck I sc false k a && ck I sc false v b && ckDD I sc r ks vs
  | _, _, _ => false
/-- pop's argument -/
def ckPa (I : CI) (sc : Scope) (i : Nat) : Exs → List Expr → Bool
  | .nil, [] => true
  | .cons k .nil, [y] => noStar y && ck I sc true k y && decide (i ∉ tE k)
  | _, _ => false
/-- values -/
def ckEs (I : CI) (sc : Scope) : Exs → List Expr → Bool
  | .nil, [] => true
  | .cons e r, x :: xs => ck I sc false e x && noStar x && ckEs I sc r xs
  | _, _ => false
/-- and, or: at least one -/
def ckVs (I : CI) (sc : Scope) : Exs → List Expr → Bool
  | .cons e .nil, [x] => ck I sc false e x
  | .cons e (.cons f r), x :: y :: xs => ck I sc false e x && ckVs I sc (.cons f r) (y :: xs)
  | _, _ => false
/-- arguments of one's own function -/
def ckAs (I : CI) (sc : Scope) : Exs → List Expr → Bool
  | .nil, [] => true
  | .cons (.io i) r, x :: xs => isVar I sc i x && ckAs I sc r xs
  | .cons e r, x :: xs => ck I sc false e x && ckAs I sc r xs
  | _, _ => false
def ckT (I : CI) (sc : Scope) : Ts → Expr → Bool
  | .val e, x => ck I sc false e x && (plainT x || (match x with
      | .Compare _ _ _ _ => true
      | _ => false))
  | .tru e, x => ck I sc true e x && plainT x
  | .nt t, x => match x with
    | .UnaryOp .Not y _ => ckT I sc t y
    | _ => false
  | .and ts, x => match x with
    | .BoolOp .And xs _ => ckTs I sc ts xs
    | _ => false
  | .or ts, x => match x with
    | .BoolOp .Or xs _ => ckTs I sc ts xs
    | _ => false
/-- at least one -/
def ckTs (I : CI) (sc : Scope) : Tss → List Expr → Bool
  | .cons t .nil, [x] => ckT I sc t x
  | .cons t (.cons u r), x :: y :: xs => ckT I sc t x && ckTs I sc (.cons u r) (y :: xs)
  | _, _ => false
/-- a comprehension's ifs: none or one -/
def ckTss (I : CI) (sc : Scope) : Tss → List Expr → Bool
  | .nil, [] => true
  | .cons t .nil, [x] => ckT I sc t x
  | _, _ => false
def ckW (I : CI) (sc : Scope) : Wk → Expr → Expr → Bool
  | .rng1 a, _, e => match e with
    | .Call f [x] [] _ => noStar x && isBlt I sc "range" f && ck I sc true a x
    | _ => false
  | .rng2 a b, _, e => match e with
    | .Call f [x, y] [] _ => noStar x && noStar y && isBlt I sc "range" f && ck I sc true a x && ck I sc true b y && free (brw I a) (tE b)
    | _ => false
  | .rng3 a b d, _, e => match e with
    | .Call f [x, y, z] [] _ => noStar x && noStar y && noStar z && isBlt I sc "range" f && ck I sc true a x && ck I sc true b y && ck I sc true d z && free (brw I a) (tE b) && free (brw I a) (tE d) && free (brw I b) (tE d)
    | _ => false
  | .it a, _, e => ck I sc true a e && decide (lvP I a ≤ 1)
  | .zip a b, tg, e => match tg, e with
    | .Tuple _ _ _, .Call f [x, y] [] _ => noStar x && noStar y && isBlt I sc "zip" f && ck I sc true a x && ck I sc true b y && free (brw I a) (tE b) && decide (lvP I a ≤ 1) && decide (lvP I b ≤ 1) && (decide (brw I b = brw I a) || (decide (brw I b = none) || decide (brw I a = none)))
    | _, _ => false
  | .enum a, tg, e => match tg, e with
    | .Tuple _ _ _, .Call f [x] [] _ => noStar x && isBlt I sc "enumerate" f && ck I sc true a x && decide (lvP I a ≤ 1)
    | _, _ => false
end
end DL
/-! DLF: the rules of the kit for what the checker lets through: operators, built-ins. -/
namespace DL
open PySem PySem.Spec PyProof.Rows L2

/-- the place: X is that of the function at hand (or a comprehension's block in it) -/
structure CtxOk (C : CC) (sc : Scope) (E : XK) (X : Cx) : Prop where
  prog : X.prog = C.P
  w : X.w = C.w
  K : X.K = C.K
  mg : X.mg = C.mg
  base : X.base = C.base
  N : X.N = C.N
  nd : C.N.Nodup
  scp : X.env.scope = sc
  kind : sc.kind = .function
  calm : X.calm = true
  room : Room C.k X.A
  pass : Passes (L2.CX X.prog X.w) X E
  own : PassesOwn (model X.prog X.w) X.A X.env X.xe
section
variable {C : CC} {sc : Scope} {E : XK} {X : Cx}
theorem CtxOk.u1 (c : CtxOk C sc E X) : X.A.units + 1 < cLine := hu_of c.room
theorem CtxOk.u64 (c : CtxOk C sc E X) : X.A.units + 64 < cLine := c.room.units
theorem CtxOk.u65 (c : CtxOk C sc E X) : X.A.units + 65 < cLine := by have := c.room.un; omega
theorem loc_ok (c : CtxOk C sc E X) {x : Str} (h : loc sc x = true) : Loc X.env.scope x := by
  unfold loc at h
  simp only [Bool.or_eq_true, decide_eq_true_eq] at h
  rw [c.scp]; exact h
theorem glb_ok (c : CtxOk C sc E X) {x : Str} (h : glb sc x = true) : Gl X x ∧ x ≠ "__name__" ∧ (x == ("__debug__" : Str)) = false := by
  unfold glb at h
  simp only [Bool.and_eq_true, decide_eq_true_eq, Bool.not_eq_true'] at h
  refine ⟨?_, of_decide_eq_false h.2, h.1.2⟩
  show X.env.scope.names.lookup x = _
  rw [c.scp]; exact h.1.1
theorem var_ok (c : CtxOk C sc E X) {i : Nat} {e : Expr} (h : isVar C.ci sc i e = true) : PE X e (tVar i) := by
  cases e <;> first | (cases h; done) | skip
  rename_i x pos
  unfold isVar at h
  simp only [Bool.and_eq_true, decide_eq_true_eq, Bool.not_eq_true'] at h
  obtain ⟨⟨⟨h1, h2⟩, h3⟩, h4⟩ := h
  refine pe_var (by rw [c.N]; exact h1) ?_ h3 h4
  unfold vis at h2
  simp only [Bool.or_eq_true, decide_eq_true_eq] at h2
  rw [c.scp]; exact h2

/-! ### operators -/
theorem op_inDK (hu : X.A.units + 1 < cLine) : OpR X (compareOp .In) rInDK := by
  intro pins s σ H x y v u Q I rx ry h
  obtain ⟨a, o, rfl, g, q⟩ := h
  obtain rfl : u = Value.ref a := ry
  exact d_in hu I g rx fun s3 I3 => ⟨.bl o.isSome, H, I3, rfl, q⟩
theorem op_ninDK (hu : X.A.units + 1 < cLine) : OpR X (compareOp .NotIn) rNinDK := by
  intro pins s σ H x y v u Q I rx ry h
  obtain ⟨a, o, rfl, g, q⟩ := h
  obtain rfl : u = Value.ref a := ry
  exact d_notIn hu I g rx fun s3 I3 => ⟨.bl (!o.isSome), H, I3, rfl, q⟩
theorem op_inT (hu : X.A.units + 65 < cLine) : OpR X (compareOp .In) (rInT X.K) := by
  intro pins s σ H x y v u Q I rx ry h
  obtain ⟨d, ds, hd, he, sd, se, q⟩ := h
  obtain ⟨as, r1⟩ := Dp.reads I d x v hd rx
  obtain ⟨bs, r2⟩ := Dp.reads I (.tuple ds) y u he ry
  exact SeqAt.in_tuple_reads r2 r1 (SeqAt.canLay_of_shaped se) (SeqAt.canLay_of_shaped sd) (room_in_shaped sd hu) ⟨.bl _, H, I, rfl, q⟩
theorem op_notInT (hu : X.A.units + 65 < cLine) : OpR X (compareOp .NotIn) (rNotInT X.K) := by
  intro pins s σ H x y v u Q I rx ry h
  obtain ⟨d, ds, hd, he, sd, se, q⟩ := h
  obtain ⟨as, r1⟩ := Dp.reads I d x v hd rx
  obtain ⟨bs, r2⟩ := Dp.reads I (.tuple ds) y u he ry
  exact SeqAt.notIn_tuple_reads r2 r1 (SeqAt.canLay_of_shaped se) (SeqAt.canLay_of_shaped sd) (room_in_shaped sd hu) ⟨.bl _, H, I, rfl, q⟩
/-- the rule of each -/
def ru2 (K : PySem.W.Frag) : Op2 → R2
  | .add => rAdd
  | .sub => rI0 fun i j => .int (i - j)
  | .mul => rMul
  | .fdiv => rI CDivW fun i j => .int (i / j)
  | .mod => rI (fun _ j => 0 < j) fun i j => .int (i % j)
  | .pow => rI CPow fun i j => .int (i ^ j.toNat)
  | .shl => rI CPow fun i j => .int (i * 2 ^ j.toNat)
  | .shr => rI (fun _ j => 0 ≤ j) fun i j => .int (i / 2 ^ j.toNat)
  | .bxor => rI0 fun i j => .int (Builtin.bitXor i j)
  | .band => rI0 fun i j => .int (Builtin.bitAnd i j)
  | .lt => rI0 fun i j => .bl (decide (i < j))
  | .le => rI0 fun i j => .bl (decide (i ≤ j))
  | .gt => rI0 fun i j => .bl (decide (j < i))
  | .ge => rI0 fun i j => .bl (decide (j ≤ i))
  | .eq => rEqD K
  | .ne => rNeD K
  | .inn => fun x y H Q => rInD K x y H Q ∨ (rInT K x y H Q ∨ rInDK x y H Q)
  | .nin => fun x y H Q => rNotInD K x y H Q ∨ (rNotInT K x y H Q ∨ rNinDK x y H Q)
  | .idx => fun x y H Q => rIx K x y H Q ∨ rIxDK x y H Q
  | .pix => rIxL K
  | .pixd => rIxDK
  | .is => rIsB
  | .nis => rNotB
theorem vo2_ok {K : PySem.W.Frag} {o : Op2} (h : isPix o = false) : VOp2 K (al2 o) (lv2 o) (opF2 o) (ru2 K o) := by
  cases o <;> first | (cases h; done) | skip
  · exact vo_add
  · exact vo_sub
  · exact vo_mul
  · exact vo_fdiv
  · exact vo_mod
  · exact vo_pow
  · exact vo_shl
  · exact vo_shr
  · exact vo_bxor
  · exact vo_band
  · exact vo_lt
  · exact vo_le
  · exact vo_gt
  · exact vo_ge
  · exact vo_eq
  · exact vo_ne
  · exact VOp2.or3 vo_inL vo_inT vo_inD fun a b d h => inn_or h
  · exact VOp2.or3 vo_ninL vo_ninT vo_ninD fun a b d h => nin_or h
  · exact vo_ix.or vo_ixD fun a b d h => ix_or h
  · exact vo_is
  · exact vo_nis
theorem bin_rule {op : Operator} {o : Op2} (h : binAst op = some o) : OpR X (binaryOp op) (ru2 X.K o) := by
  cases op <;> first | (cases h; done) | skip
  all_goals cases h
  · exact op_add.or (op_add_str.or op_cat)
  · exact op_sub
  · exact op_mul.or op_mulW
  · exact op_mod
  · exact op_pow
  · exact op_shl
  · exact op_shr
  · exact op_xor
  · exact op_and
  · exact op_fdivW
theorem cmp_rule (c : CtxOk C sc E X) {op : CmpOp} {o : Op2} (h : cmpAst op = some o) : OpR X (compareOp op) (ru2 X.K o) := by
  cases op <;> first | (cases h; done) | skip
  all_goals cases h
  · exact op_eqD c.u64
  · exact op_neD c.u64
  · exact op_lt
  · exact op_le
  · exact op_gt
  · exact op_ge
  · exact op_isBl
  · exact op_notBl
  · exact (op_inD c.u65).or ((op_inT c.u65).or (op_inDK c.u1))
  · exact (op_notInD c.u65).or ((op_notInT c.u65).or (op_ninDK c.u1))
theorem cmp_facts {op : CmpOp} {o : Op2} (h : cmpAst op = some o) : isPix o = false ∧ al2 o = false ∧ lv2 o = 9 := by
  cases op <;> first | (cases h; done) | (cases h; exact ⟨rfl, rfl, rfl⟩)
theorem bin_facts {op : Operator} {o : Op2} (h : binAst op = some o) : isPix o = false := by
  cases op <;> first | (cases h; done) | (cases h; rfl)
/-- a subscript, by values: a list, tuple or text, or a dict -/
theorem pe_sub {a b : Expr} {ta tb : TE} {pos : Pos} (c : CtxOk C sc E X) (ha : PE X a ta) (hb : PE X b tb) (hs : noSlice b = true) : PE X (.Subscript a b pos) (tOp (fun x y H Q => rIx X.K x y H Q ∨ rIxDK x y H Q) ta tb) := by
  refine ⟨fun pins s σ H Q I h => ?_⟩
  refine Subscript_ (thn (ha.run pins s σ H _ I h) fun v s1 ⟨x, H1, I1, rx, q1⟩ => ?_)
  refine thn (hb.run pins s1 σ H1 _ I1 q1) fun iv s2 ⟨y, H2, I2, ry, q2⟩ => ?_
  rcases q2 with q2 | ⟨d, z, rfl, g, q2⟩
  · exact ix_seq a b pins s2 σ H2 x y v iv Q I2 rx ry q2 (ix_ok hs _ _)
  · obtain rfl : v = Value.ref d := rx
    exact tail_any (dict_typeIs I2 g) PySem.F.slot_dict_getitem.lookup (d_getItem c.u1 I2 g ry fun w' s3 I3 rw' => ⟨z, H2, I3, rw', q2⟩) (ix_ok hs _ _)
/-- a path's subscript -/
theorem pe_pth {a b : Expr} {ta tb : TE} {pos : Pos} (c : CtxOk C sc E X) (ha : PE X a ta) (hb : PE X b tb) (hs : noSlice b = true) : PE X (.Subscript a b pos) (tOp (rPth X.K) ta tb) := by
  refine ⟨fun pins s σ H Q I h => ?_⟩
  refine Subscript_ (thn (ha.run pins s σ H _ I h) fun v s1 ⟨x, H1, I1, rx, q1⟩ => ?_)
  refine thn (hb.run pins s1 σ H1 _ I1 q1) fun iv s2 ⟨y, H2, I2, ry, q2⟩ => ?_
  rcases q2 with q2 | ⟨d, z, rfl, g, q2⟩
  · exact ix_list a b pins s2 σ H2 x y v iv Q I2 rx ry q2 (ix_ok hs _ _)
  · obtain rfl : v = Value.ref d := rx
    exact tail_any (dict_typeIs I2 g) PySem.F.slot_dict_getitem.lookup (d_getItem c.u1 I2 g ry fun w' s3 I3 rw' => ⟨z, H2, I3, rw', q2⟩) (ix_ok hs _ _)
theorem pe_pix {a b : Expr} {ta tb : TE} {pos : Pos} (c : CtxOk C sc E X) (ha : PE X a ta) (hb : PE X b tb) (hs : noSlice b = true) : PE X (.Subscript a b pos) (tOp (rIxL X.K) ta tb) := pe_ix ix_list ha hb (ix_ok hs)
theorem pe_pixd {a b : Expr} {ta tb : TE} {pos : Pos} (c : CtxOk C sc E X) (ha : PE X a ta) (hb : PE X b tb) (hs : noSlice b = true) : PE X (.Subscript a b pos) (tOp rIxDK ta tb) := pe_dget c.u1 ha hb (ix_ok hs)

/-! ### built-ins -/
def rb1 (K : PySem.W.Frag) : B1 → List V → Hp → VK → Prop
  | .len => rLen K
  | .list => rList K
  | .tuple => rTuple K
  | .sorted => rSorted K
  | .sum => rSum K
  | .min => rMin K
  | .max => rMax K
  | .int => rInt1
  | .abs => rAbs1
  | .all => rAll K
  | .any => rAny K
  | .dict => rDictP K
  | _ => fun _ _ _ => False
theorem vb1_ok {K : PySem.W.Frag} {o : B1} (h : b1Ok o = true) : VOp1 K (alb1 o) (lvb1 o) (b1F o) (one (rb1 K o)) := by
  cases o <;> first | (cases h; done) | skip
  · exact vo_len
  · exact vo_list
  · exact vo_tuple
  · exact vo_sorted
  · exact vo_sum
  · exact vo_min
  · exact vo_max
  · exact vo_int1
  · exact vo_abs
  · exact vo_all
  · exact vo_any
  · exact vo_dict
theorem isBlt_ok (c : CtxOk C sc E X) (hbl : ∀ x ∈ C.bl, BlOk C.mg x) {n : Str} {e : Expr} (h : isBlt C.ci sc n e = true) : ∃ pos, e = .Name n pos ∧ Gl X n ∧ n ≠ "__name__" ∧ (n == ("__debug__" : Str)) = false ∧ X.mg n = none := by
  cases e <;> first | (cases h; done) | skip
  rename_i x pos
  unfold isBlt blt at h
  simp only [Bool.and_eq_true, decide_eq_true_eq, Bool.not_eq_true', decide_eq_false_iff_not] at h
  obtain ⟨rfl, h1, h2, h3⟩ := h
  obtain ⟨g1, g2, g3⟩ := glb_ok c h1
  have hb := hbl x h2
  unfold BlOk at hb
  rw [if_neg h3] at hb
  exact ⟨pos, rfl, g1, g2, g3, by rw [c.mg]; exact hb⟩
theorem pe_b1 (c : CtxOk C sc E X) (hbl : ∀ x ∈ C.bl, BlOk C.mg x) {o : B1} (h : b1Ok o = true) {f x : Expr} {pos : Pos} (hf : isBlt C.ci sc (b1Nm o) f = true) (hx : noStar x = true) {t : TE} (px : PE X x t) : PE X (.Call f [x] [] pos) (tCB (rb1 X.K o) (tCons t tNil)) := by
  obtain ⟨p, rfl, g, n1, n2, m⟩ := isBlt_ok c hbl hf
  have pa : PA X [x] (tCons t tNil) := pa_cons px pa_nil (star_ok hx)
  cases o <;> first | (cases h; done) | skip
  · exact pe_callB (call_len_seq.or (call_len_str.or (by
      intro pins s σ H xs us Q I r h
      obtain ⟨a, kvs, rfl, e, q⟩ := h
      obtain rfl := Vals.ref1 r
      exact d_len I (.inl e) fun t s' I' => ⟨V.int kvs.length, H, I', ⟨t, rfl⟩, q⟩))) g m PySem.boot_len pa n1 n2 (star_ok hx) rfl
  · exact pe_callTy call_list_of g m boot_list pa n1 n2 (star_ok hx) rfl
  · exact pe_callTy call_tuple_of g m boot_tuple pa n1 n2 (star_ok hx) rfl
  · exact pe_callB (cr_sortedI.or (cr_sortedR c.u64)) g m boot_sorted pa n1 n2 (star_ok hx) rfl
  · exact pe_callB (cr_sum c.calm) g m boot_sum pa n1 n2 (star_ok hx) rfl
  · exact pe_callB (cr_min c.calm) g m boot_min pa n1 n2 (star_ok hx) rfl
  · exact pe_callB (cr_max c.calm) g m boot_max pa n1 n2 (star_ok hx) rfl
  · exact pe_callTy call_int1 g m boot_int pa n1 n2 (star_ok hx) rfl
  · exact pe_callB call_abs g m boot_abs pa n1 n2 (star_ok hx) rfl
  · exact pe_callB (cr_all c.calm) g m boot_all pa n1 n2 (star_ok hx) rfl
  · exact pe_callB (cr_any c.calm) g m boot_any pa n1 n2 (star_ok hx) rfl
  · exact pe_callTy (call_dictP c.calm) g m boot_dict pa n1 n2 (star_ok hx) rfl
theorem pe_lss (c : CtxOk C sc E X) (hbl : ∀ x ∈ C.bl, BlOk C.mg x) {f g h x : Expr} {p1 p2 p3 : Pos} (hf : isBlt C.ci sc "len" f = true) (hg : isBlt C.ci sc "sorted" g = true) (hh : isBlt C.ci sc "set" h = true) (hx : noStar x = true) {t : TE} (px : PE X x t) :
    PE X (.Call f [.Call g [.Call h [x] [] p3] [] p2] [] p1) (tCB (rLss X.K X.prog X.w) (tCons t tNil)) := by
  obtain ⟨q1, rfl, a1, n1, n2, m1⟩ := isBlt_ok c hbl hf
  obtain ⟨q2, rfl, a2, n3, n4, m2⟩ := isBlt_ok c hbl hg
  obtain ⟨q3, rfl, a3, n5, n6, m3⟩ := isBlt_ok c hbl hh
  have b1 : PE X (.Call (.Name "set" q3) [x] [] p3) (tCB (rSetOfT X.K X.prog X.w) (tCons t tNil)) := pe_callTy (cr_setOfT c.calm c.u64) a3 m3 PyProof.Rows.boot_set (pa_cons px pa_nil (star_ok hx)) n5 n6 (star_ok hx) rfl
  have b2 := pe_callB (p := q2) (pos := p2) (cr_sortedT c.calm) a2 m2 boot_sorted (pa_cons b1 pa_nil rfl) n3 n4 rfl rfl
  have cl : CallR X (.builtin "len") (rLen X.K) := call_len_seq.or (call_len_str.or (by
      intro pins s σ H xs us Q I r h
      obtain ⟨a, kvs, rfl, e, q⟩ := h
      obtain rfl := Vals.ref1 r
      exact d_len I (.inl e) fun t s' I' => ⟨V.int kvs.length, H, I', ⟨t, rfl⟩, q⟩))
  have b3 := pe_callB (p := q1) (pos := p1) cl a1 m1 PySem.boot_len (pa_cons b2 pa_nil rfl) n1 n2 rfl rfl
  exact b3
theorem pe_fact (c : CtxOk C sc E X) (hbl : ∀ x ∈ C.bl, BlOk C.mg x) {f x : Expr} {pos : Pos} (hf : isFac C.ci sc f = true) (hx : noStar x = true) {t : TE} (px : PE X x t) : PE X (.Call f [x] [] pos) (tCB rFact (tCons t tNil)) := by
  cases f <;> first | (cases hf; done) | skip
  rename_i y p
  unfold isFac at hf
  simp only [Bool.and_eq_true, decide_eq_true_eq] at hf
  obtain ⟨⟨rfl, h1⟩, h2⟩ := hf
  obtain ⟨g1, _, g3⟩ := glb_ok c h1
  have hb := hbl _ h2
  unfold BlOk at hb
  rw [if_pos rfl] at hb
  exact pe_callBfun cr_fact g1 (by rw [c.mg]; exact hb) (pa_cons px pa_nil (star_ok hx)) g3 (star_ok hx) rfl
theorem pe_srev (c : CtxOk C sc E X) (hbl : ∀ x ∈ C.bl, BlOk C.mg x) {f x : Expr} {pos kp bp : Pos} {bk : Nat} (hf : isBlt C.ci sc "sorted" f = true) (hx : noStar x = true) {t : TE} (px : PE X x t) : PE X (.Call f [x] [⟨some "reverse", .Constant (.bool true) bk bp, kp⟩] pos) (tCKw (rSortedKw X.K true [.bl true]) (tCons t tNil) (tCons (tC (.bl true)) tNil)) := by
  obtain ⟨q1, rfl, a1, n1, n2, m1⟩ := isBlt_ok c hbl hf
  refine pe_callBK cr_sortedRev a1 m1 boot_sorted (pa_cons px pa_nil (star_ok hx)) (pk_cons pe_bl pk_nil) n1 n2 ?_ ?_
  · show backTo pos (starEach [x] X.env) = _
    rw [star_ok hx]; rfl
  · rw [star_ok hx]; rfl
def rb2 : B2 → List V → Hp → VK → Prop
  | .min => rMin2
  | .max => rMax2
  | _ => fun _ _ _ => False
theorem vb2_ok {K : PySem.W.Frag} {o : B2} (h : b2Ok o = true) : VOp2 K (alb2 o) (lvb2 o) (b2F o) (two (rb2 o)) := by
  cases o <;> first | (cases h; done) | skip
  · exact vo_min2
  · exact vo_max2
theorem pe_b2 (c : CtxOk C sc E X) (hbl : ∀ x ∈ C.bl, BlOk C.mg x) {o : B2} (h : b2Ok o = true) {f x y : Expr} {pos : Pos} (hf : isBlt C.ci sc (b2Nm o) f = true) (hx : noStar x = true) (hy : noStar y = true) {t u : TE} (px : PE X x t) (py : PE X y u) : PE X (.Call f [x, y] [] pos) (tCB (rb2 o) (tCons t (tCons u tNil))) := by
  obtain ⟨p, rfl, g, n1, n2, m⟩ := isBlt_ok c hbl hf
  have pa : PA X [x, y] (tCons t (tCons u tNil)) := pa_cons px (pa_cons py pa_nil (star_ok hy)) (star_ok hx)
  cases o <;> first | (cases h; done) | skip
  · exact pe_callB (call_min2 c.calm) g m boot_min pa n1 n2 (star_ok hx) (stars_any (by show (noStar y && true) = true; rw [hy]; rfl))
  · exact pe_callB (call_max2 c.calm) g m boot_max pa n1 n2 (star_ok hx) (stars_any (by show (noStar y && true) = true; rw [hy]; rfl))
end
end DL
/-! DLFa: isinstance, displays of dicts, constants of the module. -/
namespace DL
open PySem PySem.Spec PyProof.Rows L2
section
variable {C : CC} {E : XK} {X : Cx} {T T1 T2 : List Nat} {F H F1 H1 : Hp} {S S1 : Nat → AS} {sc : Scope} {K : PySem.W.Frag} {n : Nat}
def tyN : D → String
  | .non => "NoneType"
  | .bl _ => "bool"
  | .int _ => "int"
  | .str _ => "str"
  | .lst _ => "list"
  | .tup _ => "tuple"
  | .dic _ => "dict"
  | .dit _ => "dict"
  | .scr _ => "list"
def tyT : Ty → String
  | .int => "int" | .bool => "bool" | .str => "str" | .list => "list" | .tuple => "tuple" | .dict => "dict"
theorem kt_NoneType_int : kitB "NoneType" "int" = some false := by decide +kernel
theorem kt_NoneType_bool : kitB "NoneType" "bool" = some false := by decide +kernel
theorem kt_NoneType_str : kitB "NoneType" "str" = some false := by decide +kernel
theorem kt_NoneType_list : kitB "NoneType" "list" = some false := by decide +kernel
theorem kt_NoneType_tuple : kitB "NoneType" "tuple" = some false := by decide +kernel
theorem kt_NoneType_dict : kitB "NoneType" "dict" = some false := by decide +kernel
theorem kt_bool_int : kitB "bool" "int" = some true := by decide +kernel
theorem kt_bool_bool : kitB "bool" "bool" = some true := by decide +kernel
theorem kt_bool_str : kitB "bool" "str" = some false := by decide +kernel
theorem kt_bool_list : kitB "bool" "list" = some false := by decide +kernel
theorem kt_bool_tuple : kitB "bool" "tuple" = some false := by decide +kernel
theorem kt_bool_dict : kitB "bool" "dict" = some false := by decide +kernel
theorem kt_int_int : kitB "int" "int" = some true := by decide +kernel
theorem kt_int_bool : kitB "int" "bool" = some false := by decide +kernel
theorem kt_int_str : kitB "int" "str" = some false := by decide +kernel
theorem kt_int_list : kitB "int" "list" = some false := by decide +kernel
theorem kt_int_tuple : kitB "int" "tuple" = some false := by decide +kernel
theorem kt_int_dict : kitB "int" "dict" = some false := by decide +kernel
theorem kt_str_int : kitB "str" "int" = some false := by decide +kernel
theorem kt_str_bool : kitB "str" "bool" = some false := by decide +kernel
theorem kt_str_str : kitB "str" "str" = some true := by decide +kernel
theorem kt_str_list : kitB "str" "list" = some false := by decide +kernel
theorem kt_str_tuple : kitB "str" "tuple" = some false := by decide +kernel
theorem kt_str_dict : kitB "str" "dict" = some false := by decide +kernel
theorem kt_list_int : kitB "list" "int" = some false := by decide +kernel
theorem kt_list_bool : kitB "list" "bool" = some false := by decide +kernel
theorem kt_list_str : kitB "list" "str" = some false := by decide +kernel
theorem kt_list_list : kitB "list" "list" = some true := by decide +kernel
theorem kt_list_tuple : kitB "list" "tuple" = some false := by decide +kernel
theorem kt_list_dict : kitB "list" "dict" = some false := by decide +kernel
theorem kt_tuple_int : kitB "tuple" "int" = some false := by decide +kernel
theorem kt_tuple_bool : kitB "tuple" "bool" = some false := by decide +kernel
theorem kt_tuple_str : kitB "tuple" "str" = some false := by decide +kernel
theorem kt_tuple_list : kitB "tuple" "list" = some false := by decide +kernel
theorem kt_tuple_tuple : kitB "tuple" "tuple" = some true := by decide +kernel
theorem kt_tuple_dict : kitB "tuple" "dict" = some false := by decide +kernel
theorem kt_dict_int : kitB "dict" "int" = some false := by decide +kernel
theorem kt_dict_bool : kitB "dict" "bool" = some false := by decide +kernel
theorem kt_dict_str : kitB "dict" "str" = some false := by decide +kernel
theorem kt_dict_list : kitB "dict" "list" = some false := by decide +kernel
theorem kt_dict_tuple : kitB "dict" "tuple" = some false := by decide +kernel
theorem kt_dict_dict : kitB "dict" "dict" = some true := by decide +kernel
theorem kit_tab (d : D) (t : Ty) (h : isScr d = false) : kitB (tyN d) (tyT t) = some (tyOf d t) := by
  cases d with
  | non =>
    cases t with
    | int => exact kt_NoneType_int
    | bool => exact kt_NoneType_bool
    | str => exact kt_NoneType_str
    | list => exact kt_NoneType_list
    | tuple => exact kt_NoneType_tuple
    | dict => exact kt_NoneType_dict
  | bl _ =>
    cases t with
    | int => exact kt_bool_int
    | bool => exact kt_bool_bool
    | str => exact kt_bool_str
    | list => exact kt_bool_list
    | tuple => exact kt_bool_tuple
    | dict => exact kt_bool_dict
  | int _ =>
    cases t with
    | int => exact kt_int_int
    | bool => exact kt_int_bool
    | str => exact kt_int_str
    | list => exact kt_int_list
    | tuple => exact kt_int_tuple
    | dict => exact kt_int_dict
  | str _ =>
    cases t with
    | int => exact kt_str_int
    | bool => exact kt_str_bool
    | str => exact kt_str_str
    | list => exact kt_str_list
    | tuple => exact kt_str_tuple
    | dict => exact kt_str_dict
  | lst _ =>
    cases t with
    | int => exact kt_list_int
    | bool => exact kt_list_bool
    | str => exact kt_list_str
    | list => exact kt_list_list
    | tuple => exact kt_list_tuple
    | dict => exact kt_list_dict
  | tup _ =>
    cases t with
    | int => exact kt_tuple_int
    | bool => exact kt_tuple_bool
    | str => exact kt_tuple_str
    | list => exact kt_tuple_list
    | tuple => exact kt_tuple_tuple
    | dict => exact kt_tuple_dict
  | dic _ =>
    cases t with
    | int => exact kt_dict_int
    | bool => exact kt_dict_bool
    | str => exact kt_dict_str
    | list => exact kt_dict_list
    | tuple => exact kt_dict_tuple
    | dict => exact kt_dict_dict
  | dit _ =>
    cases t with
    | int => exact kt_dict_int
    | bool => exact kt_dict_bool
    | str => exact kt_dict_str
    | list => exact kt_dict_list
    | tuple => exact kt_dict_tuple
    | dict => exact kt_dict_dict
  | scr _ => cases h
theorem ty_of {d : D} {v : V} {Z : AS} (r : RO K F H n d v Z) (s : Same F H) (h : isScr d = false) : TyX K H v (.type (tyN d)) := by
  have rr := r.rd s
  cases d with
  | non => rw [r.non_v]; exact .base .non
  | bl b => rw [r.bl_v]; exact .base (.bl b)
  | int i => rw [r.int_v]; exact .base (.int i)
  | str z => rw [r.str_v]; exact .base (.str z)
  | lst ds => obtain ⟨a, xs, rfl, e, _⟩ := rr; exact .base (.lst e)
  | tup ds =>
    obtain ⟨a, xs, rfl, e, _⟩ := rr
    rcases e with (e | ⟨o, e⟩) | ⟨o, its, m, e, c, _⟩
    · exact .base (.tup e)
    · exact .fTuple e
    · exact .kTuple e c
  | dic ds => obtain ⟨a, xs, rfl, e, _⟩ := rr; exact .base (.dK e)
  | dit ds => obtain ⟨a, xs, rfl, e, _⟩ := rr; exact .base (.dT e)
  | scr ns => cases h
def tyCs : List Ty → TA
  | [] => tNil
  | t :: ts => tCons (tC (.ty (tyT t))) (tyCs ts)
theorem tyCs_run {σ : L2.St} : ∀ {ts : List Ty} {Q : List V → Hp → Prop}, Q (ts.map fun t => V.ty (tyT t)) H → tyCs ts σ H Q
  | [], Q, h => h
  | t :: ts, Q, h => tyCs_run (ts := ts) (Q := fun xs H2 => Q (V.ty (tyT t) :: xs) H2) h
theorem kit_any {d : D} (h : isScr d = false) : ∀ ts : List Ty, PySem.W.kitAny K (.type (tyN d)) (ts.map fun t => Value.type (tyT t)) = some (ts.any (tyOf d))
  | [] => kitAny_nil
  | t :: ts => by
    refine kitAny_cons (kit_ty (kit_tab d t h)) (fun e => ?_) fun e => ?_
    · rw [List.any_cons, e, Bool.false_or]; exact kit_any h ts
    · rw [List.any_cons, e, Bool.true_or]
theorem cls_all : ∀ ts : List Ty, Paired ClsV (ts.map fun t => V.ty (tyT t)) (ts.map fun t => Value.type (tyT t))
  | [] => .nil
  | t :: ts => .cons (.ty _) (cls_all ts)
theorem sem_isi1 {ta : TE} {ea : Env → R (D × Env)} {na : Nat} {ba : Option Nat} {t : Ty} (sa : SemP C E ta ea na T ba) :
    SemE C E (tCB (rIsi C.K) (tCons ta (tCons (tC (.ty (tyT t))) tNil))) (fun env => (ea env).bind fun p => if isScr p.1 = true then .bad else .ok (.bl ([t].any (tyOf p.1)), p.2)) 9 T := fun F H σ env S ri Q post => by
  refine sa F H σ env S ri _ (post.bind.to (fun _ h => h) fun p _ hp F1 H1 S1 va Za st1 ri1 ra za => ?_)
  by_cases c : isScr p.1 = true
  · rw [if_pos c] at hp; exact hp.elim
  · rw [if_neg c] at hp
    have c : isScr p.1 = false := by simpa using c
    refine ⟨va, _, _, .type (tyT t), tyOf p.1 t, rfl, .ty _, ty_of ra ri1.sub c, kit_ty (kit_tab p.1 t c), ?_⟩
    have := hp F1 H1 S1 (.bl ([t].any (tyOf p.1))) noA st1 ri1 RO.bl Frs.none
    simpa using this
theorem sem_isiT {ta : TE} {ea : Env → R (D × Env)} {na : Nat} {ba : Option Nat} {ts : List Ty} (hn : ts.length ≤ 1000) (sa : SemP C E ta ea na T ba) :
    SemE C E (tCB (rIsiT C.K) (tCons ta (tCons (tTup (tyCs ts)) tNil))) (fun env => (ea env).bind fun p => if isScr p.1 = true then .bad else .ok (.bl (ts.any (tyOf p.1)), p.2)) 9 T := fun F H σ env S ri Q post => by
  refine sa F H σ env S ri _ (post.bind.to (fun _ h => h) fun p _ hp F1 H1 S1 va Za st1 ri1 ra za => ?_)
  by_cases c : isScr p.1 = true
  · rw [if_pos c] at hp; exact hp.elim
  · rw [if_neg c] at hp
    have c : isScr p.1 = false := by simpa using c
    refine tyCs_run (Q := fun xs H2 => xs.length ≤ sizeLine ∧ ∀ q, H2 q = none → tNil σ (upd H2 q (.tup xs)) fun ys H3 => rIsiT C.K (va :: (.ref q :: ys)) H3 Q) ⟨by rw [List.length_map]; exact Nat.le_of_lt (small1000 hn), fun q hq => ?_⟩
    have ext : Ext F1 H1 F1 (upd H1 q (.tup (ts.map fun t => V.ty (tyT t)))) := Ext.new ri1.sub hq
    have ra2 : RO C.K F1 (upd H1 q (.tup (ts.map fun t => V.ty (tyT t)))) na p.1 va Za := ra.frame ext.f fun a o _ e f => ⟨ext.n a o e f, ext.h a o e⟩
    refine ⟨va, q, _, _, _, ts.any (tyOf p.1), rfl, upd_same, cls_all ts, ty_of ra2 ext.sub c, kit_any c ts, ?_⟩
    exact hp F1 _ S1 (.bl (ts.any (tyOf p.1))) noA ((st1.trans (T2 := []) ext.stp).weak fun i hi => by simpa using hi) (ri1.ext ext) RO.bl Frs.none
theorem pe_ty (c : CtxOk C sc E X) (hbl : ∀ x ∈ C.bl, BlOk C.mg x) {t : Ty} {e : Expr} (h : isBlt C.ci sc (tyNm t) e = true) : PE X e (tC (.ty (tyT t))) := by
  obtain ⟨pos, rfl, g, n1, n2, m⟩ := isBlt_ok c hbl h
  cases t
  · exact pe_bltn (u := .type "int") g m boot_int rfl n1 n2
  · exact pe_bltn (u := .type "bool") g m boot_bool rfl n1 n2
  · exact pe_bltn (u := .type "str") g m boot_str rfl n1 n2
  · exact pe_bltn (u := .type "list") g m boot_list rfl n1 n2
  · exact pe_bltn (u := .type "tuple") g m boot_tuple rfl n1 n2
  · exact pe_bltn (u := .type "dict") g m boot_dict rfl n1 n2
theorem pa_tys (c : CtxOk C sc E X) (hbl : ∀ x ∈ C.bl, BlOk C.mg x) : ∀ {ts : List Ty} {es : List Expr}, ckTyL C.ci sc ts es = true → PA X es (tyCs ts)
  | [], [], _ => pa_nil
  | [], _ :: _, h => nomatch h
  | _ :: _, [], h => nomatch h
  | t :: ts, e :: es, h => by
    simp only [ckTyL, Bool.and_eq_true] at h
    exact pa_cons (pe_ty c hbl h.1.1) (pa_tys c hbl h.2) (star_ok h.1.2)
/-! ### displays of dicts -/
def PairRp (K : PySem.W.Frag) (F : Hp) : List D → List (V × V) → Prop
  | [], ps => ps = []
  | [_], _ => False
  | k :: v :: r, ps => ∃ x y q, ps = (x, y) :: q ∧ Rp K F k x ∧ Rp K F v y ∧ PairRp K F r q
theorem pairs_ok : ∀ {ds : List D} {ps : List (V × V)} {kvs : List (Key × D)}, PairRp K F ds ps → pairD ds = some kvs → ∃ vs : List (Key × V), ps = vs.map (fun kv => (kV kv.1, kv.2)) ∧ RpK K F kvs vs
  | [], ps, kvs, h, e => by
    cases (show ps = [] from h)
    have e : some ([] : List (Key × D)) = some kvs := e
    cases e
    exact ⟨[], rfl, rfl⟩
  | [_], _, _, h, _ => h.elim
  | k :: v :: r, ps, kvs, h, e => by
    obtain ⟨x, y, q, rfl, r1, r2, r3⟩ := h
    have e : (keyOf k).bind (fun k => (pairD r).bind fun r => some ((k, v) :: r)) = some kvs := e
    obtain ⟨k', hk, e⟩ := Option.bind_eq_some_iff.mp e
    obtain ⟨kr, hr, e⟩ := Option.bind_eq_some_iff.mp e
    cases e
    obtain ⟨vs, rfl, rk⟩ := pairs_ok r3 hr
    have hx : x = kV k' := key_v (n := 0) (H := F) (Z := noA) hk r1
    exact ⟨(k', y) :: vs, by rw [hx]; rfl, y, vs, rfl, r2, rk⟩
def SemPs (C : CC) (E : XK) (trs : List (TE × TE)) (ev : Env → R (List D × Env)) (T : List Nat) : Prop :=
  ∀ F H σ env S, RI C.K C.g F H σ env S → ∀ Q : List (V × V) → Hp → Prop,
    Post C E T F H S (ev env) (fun p => ∀ F' H' S' ps, Stp T F H S F' H' S' → RI C.K C.g F' H' σ p.2 S' → PairRp C.K F' p.1 ps → Q ps H') → tPairs trs σ H Q
theorem sem_pnil : SemPs C E [] (fun env => .ok ([], env)) T := fun F H σ env S ri Q post => post F H S [] Stp.refl ri rfl
theorem sem_pcons {tk tv : TE} {trs : List (TE × TE)} {ek ev : Env → R (D × Env)} {er : Env → R (List D × Env)} {T3 : List Nat} (sk : SemE C E tk ek 0 T1) (sv : SemE C E tv ev 0 T2) (sr : SemPs C E trs er T3) :
    SemPs C E ((tk, tv) :: trs) (fun env => (ek env).bind fun p => ((ev p.2).bind fun q => (er q.2).bind fun r => .ok (q.1 :: r.1, r.2)).bind fun q => .ok (p.1 :: q.1, q.2)) (T1 ++ (T2 ++ T3)) := fun F H σ env S ri Q post => by
  refine sk F H σ env S ri _ (post.bind.to (fun _ h => List.mem_append_left _ h) fun p _ hp F1 H1 S1 va Za st1 ri1 ra za => ?_)
  refine sv F1 H1 σ p.2 S1 ri1 _ (hp.bind.bind.step st1 (fun _ h => List.mem_append_left _ h) (fun _ h => List.mem_append_right _ (List.mem_append_left _ h)) fun q _ hq F2 H2 S2 vb Zb st2 ri2 rb zb => ?_)
  have st12 := st1.trans st2
  refine sr F2 H2 σ q.2 S2 ri2 _ (hq.bind.step st12 (fun i h => by simp at h ⊢; rcases h with h | h; exact .inl h; exact .inr (.inl h)) (fun _ h => List.mem_append_right _ (List.mem_append_right _ h)) fun r _ hr F3 H3 S3 ps st3 ri3 rp => ?_)
  exact hr F3 H3 S3 _ (st1.trans (st2.trans st3)) ri3 ⟨va, vb, ps, rfl, Rp.mono (st2.trans st3).mono ra, Rp.mono st3.mono rb, rp⟩
theorem sem_ddsp {trs : List (TE × TE)} {ev : Env → R (List D × Env)} (sp : SemPs C E trs ev T) : SemE C E (tDisp trs) (fun env => (ev env).bind fun p => (ofOpt (dspL p.1)).bind fun d => .ok (.dic d, p.2)) 1 T := fun F H σ env S ri Q post => fun a ha => by
  have ext : Ext F H F (upd H a (.dK [])) := Ext.new ri.sub ha
  refine sp F (upd H a (.dK [])) σ env S (ri.ext ext) _ (post.bind.step (T1 := []) ext.stp (fun _ h => by simp at h) (fun _ h => h) fun p _ hp F2 H2 S2 ps st2 ri2 rp => ?_)
  obtain ⟨d, hd, hq⟩ := hp.opt
  unfold dspL at hd
  obtain ⟨kvs, hk, hd⟩ := Option.bind_eq_some_iff.mp hd
  by_cases c : kvs.length ≤ 15
  · rw [if_pos c] at hd
    cases hd
    obtain ⟨vs, rfl, rk⟩ := pairs_ok rp hk
    have nS : ∀ i, ¬ S i a := fun i => ri.new ha
    have e2 : H2 a = some (.dK []) := st2.keep a _ upd_same fun i _ => nS i
    have f2 : F2 a = none := st2.keepF a _ upd_same (ri.sub.free ha) fun i _ => nS i
    have nS2 : ∀ i, ¬ S2 i a := fun i w => by
      rcases st2.fp i a w with w | ⟨j, _, w⟩ | w
      · exact nS i w
      · exact nS j w
      · rw [upd_same] at w; cases w
    refine ⟨e2, vs, rfl, by rw [← rk.length]; exact c, ?_⟩
    have rm : RpK C.K F2 (kvs.foldl (fun acc kv => putD acc kv.1 kv.2) []) (mergeK [] vs) := merge_rp rk rfl
    have st : Stp T F H S F2 H2 S2 := (Stp.trans (T1 := []) ext.stp st2).weak fun i hi => by simpa using hi
    refine hq F2 _ S2 (.ref a) (fun b => b = a) (st.updD ha) (ri2.updD nS2 f2) (RO.newK upd_same f2 rm) fun b hb => ?_
    cases hb
    exact ⟨⟨_, upd_same⟩, .inl ha, nS2⟩
  · rw [if_neg c] at hd; cases hd
/-! ### constants of the module -/
theorem sem_glo {v : V} {f : Nat} (h : ∀ d q, C.cal f [] = .ok (d, q) → ∀ F, Rp C.K F d v) (hx : ∀ c d, C.cal f [] ≠ .exc c d) : SemE C E (tC v) (fun env => (C.cal f []).bind fun q => .ok (q.1, env)) 0 T := fun F H σ env S ri Q post => by
  cases e : C.cal f [] with
  | ok q => rw [e] at post; exact post F H S v noA Stp.refl ri (h q.1 q.2 (by rw [e]) F) Frs.none
  | bad => rw [e] at post; exact post.elim
  | exc c d => exact absurd e (hx c d)
end
end DL
set_option maxHeartbeats 1000000
/-! DLG: the checker is right, for expressions. -/
namespace DL
open PySem PySem.Spec PyProof.Rows L2

section
variable {C : CC} {E : XK} {X : Cx} {T T' T1 T2 : List Nat} {F H F1 H1 : Hp} {S S1 : Nat → AS}
theorem Post.wk {α : Type} {r : R α} {k k' : α → Prop} (h : Post C E T' F H S r k) (hT : ∀ i ∈ T, i ∈ T') (g : ∀ a, k a → k' a) : Post C E T F H S r k' := h.to hT fun a _ q => g a q
theorem SemE.wk {t : TE} {ev : Env → R (D × Env)} {n : Nat} (h : SemE C E t ev n T) (hT : ∀ i ∈ T, i ∈ T') : SemE C E t ev n T' := fun F H σ env S ri Q post =>
  h F H σ env S ri Q (post.wk hT fun p hp F' H' S' v Z st r ro fr => hp F' H' S' v Z (st.weak hT) r ro (fr.weak hT))
theorem SemP.wk {t : TE} {ev : Env → R (D × Env)} {n : Nat} {b : Option Nat} (h : SemP C E t ev n T b) (hT : ∀ i ∈ T, i ∈ T') : SemP C E t ev n T' b := fun F H σ env S ri Q post =>
  h F H σ env S ri Q (post.wk hT fun p hp F' H' S' v Z st r ro fr => hp F' H' S' v Z (st.weak hT) r ro fr)
theorem SemT.wk {t : TT} {ev : Env → R (Bool × Env)} (h : SemT C E t ev T) (hT : ∀ i ∈ T, i ∈ T') : SemT C E t ev T' := fun F H σ env S ri Q post =>
  h F H σ env S ri Q (post.wk hT fun p hp F' H' S' st r => hp F' H' S' (st.weak hT) r)
theorem SemL.wk {t : TA} {ev : Env → R (List D × Env)} {n : Nat} (h : SemL C E t ev n T) (hT : ∀ i ∈ T, i ∈ T') : SemL C E t ev n T' := fun F H σ env S ri Q post =>
  h F H σ env S ri Q (post.wk hT fun p hp F' H' S' vs Z st r hl ro fr dj => hp F' H' S' vs Z (st.weak hT) r hl ro (fun i => (fr i).weak hT) dj)
theorem SemQ.wk {t : TE} {x m : Nat} {ev : Env → R (List D × Env)} (h : SemQ C E t x m ev T) (hT : ∀ i ∈ T, i ∈ T') : SemQ C E t x m ev T' := fun F H σ env S ri Q post =>
  h F H σ env S ri Q (post.wk hT fun p hp F' H' S' vc st => hp F' H' S' vc (st.weak hT))
theorem sem_tyes : SemT C E tYes (fun env => .ok (true, env)) T := fun F H σ env S ri Q post => post F H S Stp.refl ri

def isCmp : Expr → Bool
  | .Compare _ _ _ _ => true
  | _ => false
/-- name = [..] on one line -/
def SetLc (X : Cx) (ast : Expr) (t : TE) : Prop :=
  noComp ast = true ∨ ∀ (i : Nat) (y : Str) (py spos : Pos), X.N[i]? = some y → X.env.scope.names.lookup y = some .local → swapsWith ast (some (.Name y py)) spos.line X.env = pure true → PS X (.Assign [.Name y py] ast spos) (tAsg t (gName i))
def OkE (C : CC) (sc : Scope) (ir : Ex) (ast : Expr) : Prop := ∃ t : XK → TE, (∀ E X, CtxOk C sc E X → PE X ast (t E)) ∧ (isCmp ast = true → ∀ E X, CtxOk C sc E X → PT X ast (tTest (t E))) ∧ (∀ E X, CtxOk C sc E X → SetLc X ast (t E)) ∧
  ∀ E, SemE C E (t E) (evE C.cal ir) (lvE C.ci ir) (tE ir)
def OkP (C : CC) (sc : Scope) (ir : Ex) (ast : Expr) : Prop := ∃ t : XK → TE, (∀ E X, CtxOk C sc E X → PE X ast (t E)) ∧ ∀ E, SemP C E (t E) (evE C.cal ir) (lvP C.ci ir) (tE ir) (brw C.ci ir)
def OkX (C : CC) (sc : Scope) : Bool → Ex → Expr → Prop
  | true => OkP C sc
  | false => OkE C sc
def OkL (C : CC) (sc : Scope) (es : Exs) (xs : List Expr) : Prop := ∃ t : XK → TA, (∀ E X, CtxOk C sc E X → PA X xs (t E)) ∧ ∀ E, SemL C E (t E) (evEs C.cal es) (lvEs C.ci es) (tEs es)
def OkAnd (C : CC) (sc : Scope) (es : Exs) (xs : List Expr) : Prop := ∃ t : XK → TE, (∀ E X, CtxOk C sc E X → ∀ pos, PE X (.BoolOp .And xs pos) (t E)) ∧ ∀ E, SemE C E (t E) (evAnd C.cal es) 0 (tEs es)
def OkT (C : CC) (sc : Scope) (ts : Ts) (ast : Expr) : Prop := ∃ t : XK → TT, (∀ E X, CtxOk C sc E X → PT X ast (t E)) ∧ ∀ E, SemT C E (t E) (evT C.cal ts) (tT ts)
def OkA (C : CC) (sc : Scope) (es : Exs) (xs : List Expr) : Prop := ∃ t : XK → TA, (∀ E X, CtxOk C sc E X → PA X xs (t E)) ∧ ∀ E, SemA C E (t E) (evAs C.cal es) (tEs es)
def OkW (C : CC) (sc : Scope) (w : Wk) (tg it : Expr) : Prop := ∃ t : XK → TI, (∀ E X, CtxOk C sc E X → PI X tg it (t E)) ∧ ∀ E, SemW C E (t E) (evW C.cal w) (tW w) (brwW C.ci w)
def OkOr (C : CC) (sc : Scope) (es : Exs) (xs : List Expr) : Prop := ∃ t : XK → TE, (∀ E X, CtxOk C sc E X → ∀ pos, PE X (.BoolOp .Or xs pos) (t E)) ∧ ∀ E, SemE C E (t E) (evOr C.cal es) 0 (tEs es)
def OkTA (C : CC) (sc : Scope) (ts : Tss) (xs : List Expr) : Prop := ∃ t : XK → TT, (∀ E X, CtxOk C sc E X → ∀ pos, PW X (.BoolOp .And xs pos) (t E)) ∧ ∀ E, SemT C E (t E) (evTs C.cal ts) (tTs ts)
def OkTO (C : CC) (sc : Scope) (ts : Tss) (xs : List Expr) : Prop := ∃ t : XK → TT, (∀ E X, CtxOk C sc E X → ∀ pos, PW X (.BoolOp .Or xs pos) (t E)) ∧ ∀ E, SemT C E (t E) (evTo C.cal ts) (tTs ts)
def OkIf (C : CC) (sc : Scope) (ts : Tss) (xs : List Expr) : Prop := ∃ t : XK → TT, (∀ E X, CtxOk C sc E X → PTs X xs (t E)) ∧ ∀ E, SemT C E (t E) (evTs C.cal ts) (tTs ts)
def OkQ (C : CC) (sc : Scope) (x : Nat) (p : Exs) (ast : Expr) : Prop := ∃ t : XK → TE, (∀ E X, CtxOk C sc E X → PE X ast (t E)) ∧ lenEs p ≤ 1 ∧ (lenEs p ≤ C.g x → ∀ E, SemQ C E (t E) x (lenEs p) (evEs C.cal p) (tEs p))
variable {sc : Scope}
theorem OkE.p {ir : Ex} {ast : Expr} (h : OkE C sc ir ast) (h1 : lvP C.ci ir = min (lvE C.ci ir) 1) (h2 : brw C.ci ir = none) : OkP C sc ir ast := by
  obtain ⟨t, pe, _, _, se⟩ := h
  refine ⟨t, pe, fun E => ?_⟩
  rw [h1, h2]
  exact (se E).p
theorem OkE.x {ir : Ex} {ast : Expr} (h : OkE C sc ir ast) (h1 : lvP C.ci ir = min (lvE C.ci ir) 1) (h2 : brw C.ci ir = none) (p : Bool) : OkX C sc p ir ast := by
  cases p
  · exact h
  · exact h.p h1 h2
/-- for what is no comparison, no comprehension -/
theorem OkE.mk {ir : Ex} {ast : Expr} (t : XK → TE) (pe : ∀ E X, CtxOk C sc E X → PE X ast (t E)) (se : ∀ E, SemE C E (t E) (evE C.cal ir) (lvE C.ci ir) (tE ir)) (h1 : isCmp ast = false := by rfl) (h2 : noComp ast = true := by rfl) : OkE C sc ir ast :=
  ⟨t, pe, fun h => by rw [h1] at h; (cases h), fun _ _ _ => .inl h2, se⟩
/-- .. for comparisons -/
theorem OkE.cmp {ir : Ex} {ast : Expr} (t : XK → TE) (pe : ∀ E X, CtxOk C sc E X → PE X ast (t E)) (pt : ∀ E X, CtxOk C sc E X → PT X ast (tTest (t E))) (se : ∀ E, SemE C E (t E) (evE C.cal ir) (lvE C.ci ir) (tE ir)) (h2 : noComp ast = true := by rfl) : OkE C sc ir ast :=
  ⟨t, pe, fun _ => pt, fun _ _ _ => .inl h2, se⟩

/-! ### the cases -/
theorem ok_var {i : Nat} {e : Expr} {p : Bool} (h : ck C.ci sc p (.var i) e = true) : OkX C sc p (.var i) e := by
  simp only [ck, Bool.and_eq_true, Bool.or_eq_true, decide_eq_true_eq] at h
  obtain ⟨hv, hp⟩ := h
  have he : OkE C sc (.var i) e ∨ C.g i ≠ 0 := by
    by_cases g0 : C.g i = 0
    · refine .inl (OkE.mk (fun _ => tVar i) (fun E X c => var_ok c hv) (fun E => sem_var g0) ?_ ?_) <;> (cases e <;> first | rfl | (cases hv; done))
    · exact .inr g0
  cases p with
  | false =>
    rcases hp with hp | hp
    · cases hp
    · exact he.resolve_right fun q => q hp
  | true =>
    refine ⟨fun _ => tVar i, fun E X c => var_ok c hv, fun E => ?_⟩
    by_cases g0 : C.g i = 0
    · have e1 : lvP C.ci (.var i) = 0 := g0
      have e2 : brw C.ci (.var i) = none := if_pos g0
      rw [e1, e2]
      exact (sem_var (T := []) g0).p
    · have e2 : brw C.ci (.var i) = some i := if_neg g0
      rw [e2]
      exact sem_varP
theorem ok_mv {i : Nat} {e : Expr} {p : Bool} (h : ck C.ci sc p (.mv i) e = true) : OkX C sc p (.mv i) e := by
  have hv : isVar C.ci sc i e = true := by simpa only [ck] using h
  refine OkE.x (OkE.mk (fun _ => tVar i) (fun E X c => var_ok c hv) (fun E => sem_mv) ?_ ?_) rfl rfl p <;> (cases e <;> first | rfl | (cases hv; done))
theorem ok_int {z : Int} {e : Expr} {p : Bool} (h : ck C.ci sc p (.int z) e = true) : OkX C sc p (.int z) e := by
  cases e <;> first | (cases h; done) | skip
  rename_i c k pos
  cases c <;> first | (cases h; done) | skip
  simp only [ck, decide_eq_true_eq] at h
  subst h
  exact OkE.x (OkE.mk (fun _ => tC (.int z)) (fun E X c => pe_int) fun E => sem_int) rfl rfl p
theorem ok_str {z : Str} {e : Expr} {p : Bool} (h : ck C.ci sc p (.str z) e = true) : OkX C sc p (.str z) e := by
  cases e <;> first | (cases h; done) | skip
  rename_i c k pos
  cases c <;> first | (cases h; done) | skip
  simp only [ck, decide_eq_true_eq] at h
  subst h
  exact OkE.x (OkE.mk (fun _ => tC (.str z)) (fun E X c => pe_str) fun E => sem_str) rfl rfl p
theorem ok_bl {z : Bool} {e : Expr} {p : Bool} (h : ck C.ci sc p (.bl z) e = true) : OkX C sc p (.bl z) e := by
  cases e <;> first | (cases h; done) | skip
  rename_i c k pos
  cases c <;> first | (cases h; done) | skip
  simp only [ck, decide_eq_true_eq] at h
  subst h
  exact OkE.x (OkE.mk (fun _ => tC (.bl z)) (fun E X c => pe_bl) fun E => sem_bl) rfl rfl p
theorem ok_non {e : Expr} {p : Bool} (h : ck C.ci sc p .non e = true) : OkX C sc p .non e := by
  cases e <;> first | (cases h; done) | skip
  rename_i c k pos
  cases c <;> first | (cases h; done) | skip
  exact OkE.x (OkE.mk (fun _ => tC .non) (fun E X c => pe_non) fun E => sem_non) rfl rfl p
/-- the rule of a sign or test of one operand -/
def ru1 (K : PySem.W.Frag) : Op1 → V → Hp → VK → Prop
  | .neg => rU fun i => .int (-i)
  | .isN => rIsN1
  | .notN => rNotN1
  | .rev => rRev1 K
theorem vo1_ok {K : PySem.W.Frag} {o : Op1} : VOp1 K (decide (o = .rev)) (lv1 o) (opF1 o) (ru1 K o) := by
  cases o
  · exact vo_neg
  · exact vo_isN
  · exact vo_notN
  · exact vo_rev
theorem ok_un {o : Op1} {a : Ex} {e : Expr} {p : Bool} (ih : ∀ e, ck C.ci sc true a e = true → OkP C sc a e) (h : ck C.ci sc p (.un o a) e = true) : OkX C sc p (.un o a) e := by
  have main : ∀ x, OkP C sc a x → (o = .rev → lvP C.ci a ≤ 1) → ∃ t : XK → TE, (∀ E X, CtxOk C sc E X → PE X x (t E)) ∧ ∀ E, SemE C E (fun σ H Q => t E σ H fun x H1 => ru1 C.K o x H1 Q) (evE C.cal (.un o a)) (lv1 o) (tE a) := fun x ⟨t, pe, se⟩ hl =>
    ⟨t, pe, fun E => sem_un (se E) vo1_ok fun q => hl (of_decide_eq_true q)⟩
  cases o
  · cases e <;> first | (cases h; done) | skip
    rename_i op x pos
    cases op <;> first | (cases h; done) | skip
    obtain ⟨t, pe, se⟩ := main x (ih x (by simpa only [ck] using h)) fun q => by cases q
    exact OkE.x (OkE.mk _ (fun E X c => pe_un un_neg (pe E X c)) se) rfl rfl p
  · simp only [ck] at h
    split at h <;> first | contradiction | skip
    rename_i l j p1 p2 _
    obtain ⟨t, pe, se⟩ := main l (ih l h) fun q => by cases q
    exact OkE.x (OkE.cmp _ (fun E X c => pe_cmp (pc_isN (pe E X c)) (mark_ok rfl)) (fun E X c => pt_cmp (pc_isN (pe E X c)) (mark_ok rfl)) se) rfl rfl p
  · simp only [ck] at h
    split at h <;> first | contradiction | skip
    rename_i l j p1 p2 _
    obtain ⟨t, pe, se⟩ := main l (ih l h) fun q => by cases q
    exact OkE.x (OkE.cmp _ (fun E X c => pe_cmp (pc_notN (pe E X c)) (mark_ok rfl)) (fun E X c => pt_cmp (pc_notN (pe E X c)) (mark_ok rfl)) se) rfl rfl p
  · simp only [ck] at h
    split at h <;> first | contradiction | skip
    rename_i l j p1 p2 p3 p4 _
    simp only [Bool.and_eq_true, decide_eq_true_eq] at h
    obtain ⟨t, pe, se⟩ := main l (ih l h.1) fun _ => h.2
    exact OkE.x (OkE.mk _ (fun E X c => by have := pe_revL (k := j) (p1 := p1) (p2 := p2) (p3 := p3) (pos := p4) (pe E X c); rw [c.K] at this; exact this) se) rfl rfl p
/-- two operands -/
theorem ok_bin {o : Op2} {a b : Ex} {e : Expr} {p : Bool} (ia : ∀ e, ck C.ci sc true a e = true → OkP C sc a e) (ib : ∀ e, ck C.ci sc true b e = true → OkP C sc b e) (h : ck C.ci sc p (.bin o a b) e = true) : OkX C sc p (.bin o a b) e := by
  have main : isPix o = false → ∀ x y, OkP C sc a x → OkP C sc b y → free (brw C.ci a) (tE b) = true → (al2 o = true → lvP C.ci a ≤ 1 ∧ lvP C.ci b ≤ 1) →
      ∃ t u : XK → TE, (∀ E X, CtxOk C sc E X → PE X x (t E)) ∧ (∀ E X, CtxOk C sc E X → PE X y (u E)) ∧ ∀ E, SemE C E (tOp (ru2 C.K o) (t E) (u E)) (evE C.cal (.bin o a b)) (lv2 o) (tE a ++ tE b) :=
    fun np x y ⟨t, pt, st⟩ ⟨u, pu, su⟩ hb hl => ⟨t, u, pt, pu, fun E => sem_bin (st E) (su E) (free_ok hb) (vo2_ok np) hl⟩
  have fx : isPix o = false → lvP C.ci (.bin o a b) = min (lvE C.ci (.bin o a b)) 1 ∧ brw C.ci (.bin o a b) = none := fun np => by
    refine ⟨?_, ?_⟩
    · show (if isPix o = true then _ else _) = _
      rw [np]; rfl
    · show (if isPix o = true then _ else _) = _
      rw [np]; rfl
  simp only [ck] at h
  split at h
  · rename_i l op r pos
    simp only [Bool.and_eq_true, decide_eq_true_eq] at h
    obtain ⟨⟨⟨⟨⟨h1, h2⟩, h3⟩, h4⟩, h5⟩, h6⟩ := h
    obtain ⟨t, u, pt, pu, se⟩ := main (bin_facts h1) l r (ia l h2) (ib r h3) h4 fun _ => ⟨h5, h6⟩
    exact OkE.x (OkE.mk _ (fun E X c => by have := pe_op (pos := pos) (bin_rule (X := X) h1) (pt E X c) (pu E X c); rw [c.K] at this; exact this) se) (fx (bin_facts h1)).1 (fx (bin_facts h1)).2 p
  · rename_i l op r pos
    simp only [Bool.and_eq_true, decide_eq_true_eq] at h
    obtain ⟨⟨⟨⟨h1, h2⟩, h3⟩, h4⟩, h5⟩ := h
    obtain ⟨np, al, _⟩ := cmp_facts h1
    obtain ⟨t, u, pt, pu, se⟩ := main np l r (ia l h2) (ib r h3) h4 fun q => by rw [al] at q; cases q
    exact OkE.x (OkE.cmp _ (fun E X c => by have := pe_cmpR (pos := pos) (cmp_rule c h1) (pt E X c) (pu E X c) (mark_ok h5); rw [c.K] at this; exact this)
      (fun E X c => by have := pt_cmpR (pos := pos) (cmp_rule c h1) (pt E X c) (pu E X c) (mark_ok h5); rw [c.K] at this; exact this) se) (fx np).1 (fx np).2 p
  · rename_i l r pos
    simp only [Bool.and_eq_true, decide_eq_true_eq, Bool.or_eq_true] at h
    obtain ⟨⟨⟨⟨h1, h2⟩, h3⟩, h4⟩, h5⟩ := h
    rcases h5 with ⟨⟨rfl, h6⟩, h7⟩ | ⟨⟨hp, h6⟩, h7⟩
    · obtain ⟨t, u, pt, pu, se⟩ := main rfl l r (ia l h1) (ib r h2) h3 fun _ => ⟨h6, h7⟩
      exact OkE.x (OkE.mk _ (fun E X c => by have := pe_sub (pos := pos) c (pt E X c) (pu E X c) h4; rw [c.K] at this; exact this) se) (fx rfl).1 (fx rfl).2 p
    · subst hp
      obtain ⟨t, pt, st⟩ := ia l h1
      obtain ⟨u, pu, su⟩ := ib r h2
      obtain ⟨m, hm⟩ : ∃ m, lvP C.ci a = m + 2 := ⟨lvP C.ci a - 2, by omega⟩
      have e1 : lvP C.ci (.bin o a b) = m + 1 := by
        show (if isPix o = true then _ else _) = _
        rw [if_pos h6, hm]; rfl
      have e2 : brw C.ci (.bin o a b) = brw C.ci a := if_pos h6
      rw [hm] at st
      cases o <;> first | (cases h6; done) | skip
      · refine ⟨fun E => tOp (rIxL C.K) (t E) (u E), fun E X c => by have := pe_pix (pos := pos) c (pt E X c) (pu E X c) h4; rw [c.K] at this; exact this, fun E => ?_⟩
        rw [e1, e2]
        exact sem_binP (st E) (su E) (free_ok h3) vp_pix
      · refine ⟨fun E => tOp rIxDK (t E) (u E), fun E X c => pe_pixd (pos := pos) c (pt E X c) (pu E X c) h4, fun E => ?_⟩
        rw [e1, e2]
        exact sem_binP (st E) (su E) (free_ok h3) vp_pixd
  · cases h
theorem ok_chain {o o' : Op2} {a b c : Ex} {e : Expr} {p : Bool} (ia : ∀ e, ck C.ci sc true a e = true → OkP C sc a e) (ib : ∀ e, ck C.ci sc true b e = true → OkP C sc b e) (ic : ∀ e, ck C.ci sc true c e = true → OkP C sc c e) (h : ck C.ci sc p (.chain o o' a b c) e = true) : OkX C sc p (.chain o o' a b c) e := by
  simp only [ck] at h
  split at h <;> first | contradiction | skip
  rename_i l op op' m r pos
  simp only [Bool.and_eq_true, decide_eq_true_eq] at h
  obtain ⟨⟨⟨⟨⟨⟨⟨⟨⟨h1, h1'⟩, h2⟩, h3⟩, h4⟩, h5⟩, h6⟩, h7⟩, h8⟩, h9⟩ := h
  obtain ⟨np, al, lv⟩ := cmp_facts h1
  obtain ⟨np', al', lv'⟩ := cmp_facts h1'
  obtain ⟨t, pt, st⟩ := ia l h2
  obtain ⟨u, pu, su⟩ := ib m h3
  obtain ⟨w, pw, sw⟩ := ic r h4
  have v1 := vo2_ok (K := C.K) np
  have v2 := vo2_ok (K := C.K) np'
  rw [al, lv] at v1
  rw [al', lv'] at v2
  refine OkE.x (OkE.cmp (fun E => tChain (ru2 C.K o) (ru2 C.K o') (t E) (u E) (w E)) (fun E X c => by have := pe_chain (pos := pos) (cmp_rule c h1) (cmp_rule c h1') (pt E X c) (pu E X c) (pw E X c) (marks_ok h7); rw [c.K] at this; exact this)
    (fun E X c => by have := pt_chain (pos := pos) (cmp_rule c h1) (cmp_rule c h1') (pt E X c) (pu E X c) (pw E X c) (marks_ok h7); rw [c.K] at this; exact this) fun E => ?_) rfl rfl p
  exact sem_chain (st E) (su E) (sw E) (free_ok h5) (free_ok h6) v1 v2
theorem mem_nil {T : List Nat} : ∀ i ∈ T, i ∈ T ++ [] := fun i h => by rw [List.append_nil]; exact h
theorem ok_nt {a : Ex} {e : Expr} {p : Bool} (ia : ∀ e, ck C.ci sc false a e = true → OkE C sc a e) (h : ck C.ci sc p (.nt a) e = true) : OkX C sc p (.nt a) e := by
  simp only [ck] at h
  split at h <;> first | contradiction | skip
  rename_i x pos
  obtain ⟨t, pe, _, _, se⟩ := ia x h
  exact OkE.x (ir := .nt a) (OkE.mk (ir := .nt a) (fun E => tNotV (t E)) (fun E X c => pe_not (pe E X c)) fun E => sem_nt (se E)) rfl rfl p
theorem ok_and1 {e : Ex} {x : Expr} (h : OkE C sc e x) : OkAnd C sc (.cons e .nil) [x] := by
  obtain ⟨t, pe, _, _, se⟩ := h
  exact ⟨t, fun E X c pos => pe_one (pe E X c), fun E => ((se E).lw (Nat.zero_le _)).wk mem_nil⟩
theorem ok_and2 {e f : Ex} {r : Exs} {x y : Expr} {xs : List Expr} (h : OkE C sc e x) (g : OkAnd C sc (.cons f r) (y :: xs)) : OkAnd C sc (.cons e (.cons f r)) (x :: y :: xs) := by
  obtain ⟨t, pe, _, _, se⟩ := h
  obtain ⟨u, pu, su⟩ := g
  exact ⟨fun E => tAndV (t E) (u E), fun E X c pos => pe_and (pe E X c) (pu E X c pos), fun E => sem_and (se E) (su E)⟩
theorem ok_or1 {e : Ex} {x : Expr} (h : OkE C sc e x) : OkOr C sc (.cons e .nil) [x] := by
  obtain ⟨t, pe, _, _, se⟩ := h
  exact ⟨t, fun E X c pos => pe_one (pe E X c), fun E => ((se E).lw (Nat.zero_le _)).wk mem_nil⟩
theorem ok_or2 {e f : Ex} {r : Exs} {x y : Expr} {xs : List Expr} (h : OkE C sc e x) (g : OkOr C sc (.cons f r) (y :: xs)) : OkOr C sc (.cons e (.cons f r)) (x :: y :: xs) := by
  obtain ⟨t, pe, _, _, se⟩ := h
  obtain ⟨u, pu, su⟩ := g
  exact ⟨fun E => tOrV (t E) (u E), fun E X c pos => pe_or (pe E X c) (pu E X c pos), fun E => sem_or (se E) (su E)⟩
theorem ok_band {es : Exs} {e : Expr} {p : Bool} (ih : ∀ xs, ckVs C.ci sc es xs = true → OkAnd C sc es xs) (h : ck C.ci sc p (.band es) e = true) : OkX C sc p (.band es) e := by
  simp only [ck] at h
  split at h <;> first | contradiction | skip
  rename_i xs pos
  obtain ⟨t, pe, se⟩ := ih xs h
  exact OkE.x (ir := .band es) (OkE.mk (ir := .band es) t (fun E X c => pe E X c pos) se) rfl rfl p
theorem ok_bor {es : Exs} {e : Expr} {p : Bool} (ih : ∀ xs, ckVs C.ci sc es xs = true → OkOr C sc es xs) (h : ck C.ci sc p (.bor es) e = true) : OkX C sc p (.bor es) e := by
  simp only [ck] at h
  split at h <;> first | contradiction | skip
  rename_i xs pos
  obtain ⟨t, pe, se⟩ := ih xs h
  exact OkE.x (ir := .bor es) (OkE.mk (ir := .bor es) t (fun E X c => pe E X c pos) se) rfl rfl p
theorem ok_ite {c : Ts} {a b : Ex} {e : Expr} {p : Bool} (ic : ∀ e, ckT C.ci sc c e = true → OkT C sc c e) (ia : ∀ e, ck C.ci sc false a e = true → OkE C sc a e) (ib : ∀ e, ck C.ci sc false b e = true → OkE C sc b e) (h : ck C.ci sc p (.ite c a b) e = true) : OkX C sc p (.ite c a b) e := by
  simp only [ck] at h
  split at h <;> first | contradiction | skip
  rename_i t x y pos
  simp only [Bool.and_eq_true] at h
  obtain ⟨⟨h1, h2⟩, h3⟩ := h
  obtain ⟨t, pt, st⟩ := ic t h1
  obtain ⟨u, pu, _, _, su⟩ := ia x h2
  obtain ⟨w, pw, _, _, sw⟩ := ib y h3
  exact OkE.x (ir := .ite c a b) (OkE.mk (ir := .ite c a b) (fun E => tIf (t E) (u E) (w E)) (fun E X c => pe_ifExp (pt E X c) (pu E X c) (pw E X c)) fun E => sem_ite (st E) ((su E).lw (Nat.min_le_left _ _)) ((sw E).lw (Nat.min_le_right _ _)) rfl) rfl rfl p
theorem evEs_len {cal : Cal} : ∀ {es : Exs} {env : Env} {q : List D × Env}, evEs cal es env = .ok q → q.1.length = lenEs es
  | .nil, env, q, h => by
    have h : R.ok (([] : List D), env) = .ok q := h
    cases h; rfl
  | .cons e r, env, q, h => by
    have h : ((evE cal e env).bind fun p => (evEs cal r p.2).bind fun q => R.ok (p.1 :: q.1, q.2)) = .ok q := h
    cases e1 : evE cal e env with
    | bad => rw [e1] at h; cases h
    | exc c d => rw [e1] at h; cases h
    | ok a =>
      rw [e1] at h
      simp only [R.bind_ok] at h
      cases e2 : evEs cal r a.2 with
      | bad => rw [e2] at h; cases h
      | exc c d => rw [e2] at h; cases h
      | ok b =>
        rw [e2] at h
        cases h
        show b.1.length + 1 = lenEs r + 1
        rw [evEs_len e2]
theorem SemL.lw {t : TA} {es : Exs} {n m : Nat} (h : SemL C E t (evEs C.cal es) n T) (hm : m = n) : SemL C E t (evEs C.cal es) m T := by subst hm; exact h
theorem ok_lnil : OkL C sc .nil [] := ⟨fun _ => tNil, fun E X c => pa_nil, fun E => sem_nil⟩
/-- values, each at least so deep -/
def OkLn (C : CC) (sc : Scope) (n : Nat) (es : Exs) (xs : List Expr) : Prop := ∃ t : XK → TA, (∀ E X, CtxOk C sc E X → PA X xs (t E)) ∧ ∀ E, SemL C E (t E) (evEs C.cal es) n (tEs es)
theorem ok_lnil' {n : Nat} : OkLn C sc n .nil [] := ⟨fun _ => tNil, fun E X c => pa_nil, fun E => sem_nil⟩
theorem ok_lcons {n : Nat} {e : Ex} {r : Exs} {x : Expr} {xs : List Expr} (h : OkE C sc e x) (hs : noStar x = true) (hn : n ≤ lvE C.ci e) (g : OkLn C sc n r xs) : OkLn C sc n (.cons e r) (x :: xs) := by
  obtain ⟨t, pe, _, _, se⟩ := h
  obtain ⟨u, pu, su⟩ := g
  exact ⟨fun E => tCons (t E) (u E), fun E X c => pa_cons (pe E X c) (pu E X c) (star_ok hs), fun E => sem_cons ((se E).lw hn) (su E)⟩
theorem ok_lst {es : Exs} {e : Expr} {p : Bool} (ih : ∀ n, n ≤ lvEs C.ci es → ∀ xs, ckEs C.ci sc es xs = true → OkLn C sc n es xs) (h : ck C.ci sc p (.lst es) e = true) : OkX C sc p (.lst es) e := by
  simp only [ck] at h
  split at h <;> first | contradiction | skip
  rename_i xs pos
  simp only [Bool.and_eq_true, decide_eq_true_eq] at h
  obtain ⟨t, pe, se⟩ := ih _ (Nat.le_refl _) xs h.1
  exact OkE.x (ir := .lst es) (OkE.mk (ir := .lst es) (fun E => tLst (t E)) (fun E X c => pe_lst (pe E X c)) fun E => sem_lst (se E) fun env q e => by rw [evEs_len e]; exact h.2) rfl rfl p
theorem ok_tup {es : Exs} {e : Expr} {p : Bool} (ih : ∀ n, n ≤ lvEs C.ci es → ∀ xs, ckEs C.ci sc es xs = true → OkLn C sc n es xs) (h : ck C.ci sc p (.tup es) e = true) : OkX C sc p (.tup es) e := by
  simp only [ck] at h
  split at h <;> first | contradiction | skip
  rename_i xs k pos
  simp only [Bool.and_eq_true, decide_eq_true_eq] at h
  obtain ⟨t, pe, se⟩ := ih 0 (Nat.zero_le _) xs h.1
  exact OkE.x (ir := .tup es) (OkE.mk (ir := .tup es) (fun E => tTup (t E)) (fun E X c => pe_tup (pe E X c)) fun E => sem_tup (se E) fun env q e => by rw [evEs_len e]; exact h.2) rfl rfl p
theorem slr_any {X : Cx} : SlR X (rSl X.K) := sl_list.or (sl_str.or sl_tupA)
theorem ok_slc {lo hi : Bool} {a b c : Ex} {e : Expr} {p : Bool} (ia : ∀ e, ck C.ci sc true a e = true → OkP C sc a e) (ib : ∀ e, ck C.ci sc true b e = true → OkP C sc b e) (ic : ∀ e, ck C.ci sc true c e = true → OkP C sc c e) (h : ck C.ci sc p (.slc lo hi a b c) e = true) : OkX C sc p (.slc lo hi a b c) e := by
  simp only [ck] at h
  split at h <;> first | contradiction | skip
  rename_i x l u p2 pos
  simp only [Bool.and_eq_true, decide_eq_true_eq] at h
  obtain ⟨⟨⟨⟨h1, h2⟩, h3⟩, h4⟩, h5⟩ := h
  obtain ⟨t, pt, st⟩ := ia x h1
  have part : ∀ (k : Bool) (b : Ex) (l : Option Expr), (∀ e, ck C.ci sc true b e = true → OkP C sc b e) → (match k, l with
        | true, some y => ck C.ci sc true b y
        | false, none => true
        | _, _ => false) = true → ∃ t : XK → TO, (∀ E X, CtxOk C sc E X → PO X l (t E)) ∧ ∀ E, SemO C E (t E) (fun env => if k = true then (evE C.cal b env).bind fun q => (ofOpt (asI q.1)).bind fun i => .ok (some i, q.2) else .ok (none, env)) (tE b) := fun k b l ib h => by
    cases k <;> cases l <;> first | (cases h; done) | skip
    · exact ⟨fun _ => tNoPart, fun E X c => po_none, fun E => sem_oNone⟩
    · obtain ⟨t, pt, st⟩ := ib _ h
      exact ⟨fun E => tPart (t E), fun E X c => po_some (pt E X c), fun E => sem_oSome (st E)⟩
  obtain ⟨tl, pl, sl⟩ := part lo b l ib h4
  obtain ⟨tu, pu, su⟩ := part hi c u ic h5
  refine OkE.x (ir := .slc lo hi a b c) (OkE.mk (ir := .slc lo hi a b c) (fun E => tSl (rSl C.K) (t E) (tl E) (tu E)) (fun E X c => by have := pe_slice (pos := pos) (p2 := p2) (slr_any (X := X)) (pt E X c) (pl E X c) (pu E X c); rw [c.K] at this; exact this) fun E => ?_) rfl rfl p
  exact sem_slc (st E) (sl E) (su E) h2 (free_ok h3)
theorem ok_b1 (hbl : ∀ x ∈ C.bl, BlOk C.mg x) {o : B1} {a : Ex} {e : Expr} {p : Bool} (ia : ∀ e, ck C.ci sc true a e = true → OkP C sc a e) (h : ck C.ci sc p (.b1 o a) e = true) : OkX C sc p (.b1 o a) e := by
  simp only [ck] at h
  split at h <;> first | contradiction | skip
  rotate_left
  · rename_i f x kw bk bp kp pos
    simp only [Bool.and_eq_true, decide_eq_true_eq] at h
    obtain ⟨⟨⟨⟨⟨hx, rfl⟩, rfl⟩, h2⟩, h3⟩, h4⟩ := h
    obtain ⟨t, pt, st⟩ := ia x h3
    refine OkE.x (ir := .b1 .srev a) (OkE.mk (ir := .b1 .srev a) (fun E => tCKw (rSortedKw C.K true [.bl true]) (tCons (t E) tNil) (tCons (tC (.bl true)) tNil)) (fun E X c => by have := pe_srev (pos := pos) (kp := kp) (bp := bp) (bk := bk) c hbl h2 hx (pt E X c); rw [c.K] at this; exact this) fun E => ?_) rfl rfl p
    have := sem_un (st E) (vo_srev (K := C.K)) fun _ => h4
    exact this
  rename_i f x pos
  simp only [Bool.and_eq_true, Bool.or_eq_true, decide_eq_true_eq, Bool.not_eq_true'] at h
  obtain ⟨hx, h⟩ := h
  rcases h with ((⟨⟨⟨h1, h2⟩, h3⟩, h4⟩ | ⟨⟨h1, h2⟩, h3⟩) | ⟨⟨h1, h2⟩, h3⟩) | ⟨⟨h1, h2⟩, h3⟩
  · obtain ⟨t, pt, st⟩ := ia x h3
    refine OkE.x (ir := .b1 o a) (OkE.mk (ir := .b1 o a) (fun E => tCB (rb1 C.K o) (tCons (t E) tNil)) (fun E X c => by have := pe_b1 (pos := pos) c hbl h1 h2 hx (pt E X c); rw [c.K] at this; exact this) fun E => ?_) rfl rfl p
    have := sem_un (st E) (vb1_ok (K := C.K) h1) fun q => h4.resolve_left (by rw [q]; exact fun z => nomatch z)
    exact this
  · subst h1
    split at h3 <;> first | contradiction | skip
    rename_i f' y pos'
    simp only [Bool.and_eq_true, decide_eq_true_eq] at h3
    obtain ⟨⟨⟨hy, h4⟩, h5⟩, h6⟩ := h3
    obtain ⟨t, pt, st⟩ := ia y h5
    refine OkE.x (ir := .b1 .rng a) (OkE.mk (ir := .b1 .rng a) (fun E => tLstRg (tRg1 (t E))) (fun E X c => ?_) fun E => ?_) rfl rfl p
    · obtain ⟨p1, rfl, g, _, _, m⟩ := isBlt_ok c hbl h2
      obtain ⟨p2, rfl, g2, _, _, m2⟩ := isBlt_ok c hbl h4
      exact pe_listRg c.calm g m (prg_1 g2 m2 (pt E X c) (star_ok hy)) (star_ok hx)
    · have := sem_un (st E) (vo_rng1 (K := C.K) (al := true)) fun _ => h6
      exact this
  · subst h1
    obtain ⟨t, pt, st⟩ := ia x h3
    refine OkE.x (ir := .b1 .fact a) (OkE.mk (ir := .b1 .fact a) (fun E => tCB rFact (tCons (t E) tNil)) (fun E X c => pe_fact (pos := pos) c hbl h2 hx (pt E X c)) fun E => ?_) rfl rfl p
    have := sem_un (st E) (vo_fact (K := C.K) (n := lvb1 .fact) (al := false)) fun q => nomatch q
    exact this
  · subst h1
    split at h3 <;> first | contradiction | skip
    rename_i f' y pos'
    rw [Bool.and_eq_true] at h3
    obtain ⟨h4, h3⟩ := h3
    split at h3 <;> first | contradiction | skip
    rename_i f'' z pos''
    simp only [Bool.and_eq_true, decide_eq_true_eq] at h3
    obtain ⟨⟨⟨hz, h5⟩, h6⟩, h7⟩ := h3
    obtain ⟨t, pt, st⟩ := ia z h6
    refine OkE.x (ir := .b1 .lss a) (OkE.mk (ir := .b1 .lss a) (fun E => tCB (rLss C.K C.P C.w) (tCons (t E) tNil)) (fun E X c => by have := pe_lss (p1 := pos) (p2 := pos') (p3 := pos'') c hbl h2 h4 h5 hz (pt E X c); rw [c.K, c.prog, c.w] at this; exact this) fun E => ?_) rfl rfl p
    have := sem_un (st E) (vo_lss (K := C.K) (P := C.P) (w := C.w) (n := lvb1 .lss)) fun _ => h7
    exact this
end
end DL
set_option maxHeartbeats 1000000
/-! DLH: the checker is right, for expressions: calls, comprehensions, tests; all together. -/
namespace DL
open PySem PySem.Spec PyProof.Rows L2

/-- what stands in the module -/
structure Facts (C : CC) : Prop where
  bl : ∀ x ∈ C.bl, BlOk C.mg x
  fn : ∀ f fd, C.tbl[f]? = some fd → f ∉ C.gl → C.mg fd.nm = some (.ref (C.adr f)) ∧ PySem.W.keepIn C.K (.ref (C.adr f)) = true ∧ Binds C.K (C.fda f) (fd.N.take fd.np) [] ∧
    FnOk C.P C.w C.K C.mg C.base (L2.CX C.P C.w) C.k (C.adr f) (C.fda f) (fd.N.take fd.np) (spF C fd f)
  gl : ∀ f fd, C.tbl[f]? = some fd → f ∈ C.gl → ∃ v u, C.mg fd.nm = some u ∧ RelV v u ∧ (∀ d q, C.cal f [] = .ok (d, q) → ∀ F, Rp C.K F d v) ∧ ∀ c d, C.cal f [] ≠ .exc c d
section
variable {C : CC} {E : XK} {X : Cx} {T T' T1 T2 : List Nat} {F H F1 H1 : Hp} {S S1 : Nat → AS} {sc : Scope}
theorem ok_b2 (hbl : ∀ x ∈ C.bl, BlOk C.mg x) {o : B2} {a b : Ex} {e : Expr} {p : Bool} (ia : ∀ e, ck C.ci sc true a e = true → OkP C sc a e) (ib : ∀ e, ck C.ci sc true b e = true → OkP C sc b e) (h : ck C.ci sc p (.b2 o a b) e = true) : OkX C sc p (.b2 o a b) e := by
  simp only [ck] at h
  split at h <;> first | contradiction | skip
  · rename_i f x y pos
    simp only [Bool.and_eq_true, decide_eq_true_eq] at h
    obtain ⟨⟨⟨⟨⟨⟨hx, hy⟩, h1⟩, h2⟩, h3⟩, h4⟩, h5⟩ := h
    obtain ⟨t, pt, st⟩ := ia x h3
    obtain ⟨u, pu, su⟩ := ib y h4
    refine OkE.x (ir := .b2 o a b) (OkE.mk (ir := .b2 o a b) (fun E => tCB (rb2 o) (tCons (t E) (tCons (u E) tNil))) (fun E X c => pe_b2 (pos := pos) c hbl h1 h2 hx hy (pt E X c) (pu E X c)) fun E => ?_) rfl rfl p
    have := sem_bin (st E) (su E) (free_ok h5) (vb2_ok (K := C.K) h1) fun q => by cases o <;> first | (cases q; done) | (cases h1; done)
    exact this
  · rename_i f x pos
    simp only [Bool.and_eq_true, decide_eq_true_eq] at h
    obtain ⟨⟨⟨hx, rfl⟩, h2⟩, h3⟩ := h
    split at h3 <;> first | contradiction | skip
    rename_i f' y z pos'
    simp only [Bool.and_eq_true, decide_eq_true_eq] at h3
    obtain ⟨⟨⟨⟨⟨⟨⟨hy, hz⟩, h4⟩, h5⟩, h6⟩, h7⟩, h8⟩, h9⟩ := h3
    obtain ⟨t, pt, st⟩ := ia y h5
    obtain ⟨u, pu, su⟩ := ib z h6
    refine OkE.x (ir := .b2 .rng a b) (OkE.mk (ir := .b2 .rng a b) (fun E => tLstRg (tRg2 (t E) (u E))) (fun E X c => ?_) fun E => ?_) rfl rfl p
    · obtain ⟨p1, rfl, g, _, _, m⟩ := isBlt_ok c hbl h2
      obtain ⟨p2, rfl, g2, _, _, m2⟩ := isBlt_ok c hbl h4
      exact pe_listRg c.calm g m (prg_2 g2 m2 (pt E X c) (pu E X c) (star_ok hy) (star_ok hz) (stars_any (by show (noStar z && true) = true; rw [hz]; rfl))) (star_ok hx)
    · have := sem_bin (st E) (su E) (free_ok h7) (vo_rng2 (K := C.K) (al := true)) fun _ => ⟨h8, h9⟩
      intro F H σ env S ri Q post
      refine this F H σ env S ri (fun v H' => Q v H') post
theorem sem_m1 {ta tb : TE} {ea eb : Env → R (D × Env)} {na nb : Nat} {ba bb : Option Nat} {o : M1} {r : V → List V → Hp → VK → Prop} (vo : VOp2 C.K false 9 (m1F o) (mtw r)) (ho : ∀ d, m1G o d = isLst d) (sa : SemP C E ta ea na T1 ba) (sb : SemP C E tb eb nb T2 bb) (hb : ∀ i, ba = some i → i ∉ T2) :
    SemE C E (tBM C.K "list" r ta (tCons tb tNil)) (fun env => (ea env).bind fun p => (ofOpt (m1G o p.1)).bind fun _ => (eb p.2).bind fun q => (ofOpt (m1F o p.1 q.1)).bind fun d => .ok (d, q.2)) 9 (T1 ++ T2) := fun F H σ env S ri Q post => by
  refine sa F H σ env S ri _ (post.bind.to (fun _ h => List.mem_append_left _ h) fun p _ hp F1 H1 S1 va Za st1 ri1 ra za => ?_)
  obtain ⟨u, hu, hp⟩ := hp.opt
  obtain ⟨ds, hds⟩ := isLst_some (show isLst p.1 = some u by rw [← ho]; exact hu)
  have ra' := ra
  rw [hds] at ra'
  obtain ⟨a, xs, ev, ea', rr⟩ := ra'.rdL ri1.sub
  refine ⟨by rw [ev]; exact .inl ⟨rfl, xs, .inl (.inl ea')⟩, ?_⟩
  refine sb F1 H1 σ p.2 S1 ri1 _ (hp.bind.step st1 (fun _ h => List.mem_append_left _ h) (fun _ h => List.mem_append_right _ h) fun q _ hq F2 H2 S2 vb Zb st2 ri2 rb zb => ?_)
  obtain ⟨d, hd, hq⟩ := hq.opt
  have ra2 : RO C.K F2 H2 na p.1 va Za := st2.ro ra fun a z i hi w => hb i ((za a z).2 i w) hi
  refine vo F2 H2 p.1 q.1 d va vb na nb Za Zb ri2.sub ra2 rb (fun h => nomatch h) hd Q fun F3 H3 v Z ext rz fz => ?_
  refine hq F3 H3 S2 v Z ?_ (ri2.ext ext) rz ((st1.trans st2).frs ri2 fz)
  exact ((st1.trans st2).trans (T2 := []) ext.stp).weak fun i hi => by simpa using hi
theorem ok_m1 {o : M1} {a b : Ex} {e : Expr} {p : Bool} (ia : ∀ e, ck C.ci sc true a e = true → OkP C sc a e) (ib : ∀ e, ck C.ci sc true b e = true → OkP C sc b e) (h : ck C.ci sc p (.m1 o a b) e = true) : OkX C sc p (.m1 o a b) e := by
  simp only [ck] at h
  split at h <;> first | contradiction | skip
  rename_i x m apos y cpos
  simp only [Bool.and_eq_true, decide_eq_true_eq] at h
  obtain ⟨⟨⟨⟨⟨⟨ho, hy⟩, hx⟩, hl⟩, h3⟩, h4⟩, h5⟩ := h
  obtain ⟨t, pt, st⟩ := ia x h3
  obtain ⟨u, pu, su⟩ := ib y h4
  rw [Bool.or_eq_true, Bool.and_eq_true, Bool.and_eq_true, decide_eq_true_eq, decide_eq_true_eq, decide_eq_true_eq, decide_eq_true_eq] at ho
  rcases ho with ⟨rfl, rfl⟩ | ⟨rfl, rfl⟩
  · refine OkE.x (ir := .m1 .index a b) (OkE.mk (ir := .m1 .index a b) (fun E => tBM C.K "list" (rIndexD C.K) (t E) (tCons (u E) tNil)) (fun E X c => ?_) fun E => sem_m1 vo_index (fun _ => rfl) (st E) (su E) (free_ok h5)) rfl rfl p
    have := pe_bm PySem.F.plainAttrs_list PySem.F.slot_list_index PySem.F.type_list_index (mt_indexD c.u65) (pt E X c) (pa_cons (pu E X c) pa_nil (star_ok hy)) (base_ok hx) (one_few hy) hl (star_ok hy) rfl
    rw [c.K] at this
    exact this
  · refine OkE.x (ir := .m1 .count a b) (OkE.mk (ir := .m1 .count a b) (fun E => tBM C.K "list" (rCntI C.K) (t E) (tCons (u E) tNil)) (fun E X c => ?_) fun E => sem_m1 vo_count (fun _ => rfl) (st E) (su E) (free_ok h5)) rfl rfl p
    have := pe_bm PySem.F.plainAttrs_list PySem.F.slot_list_count PySem.F.type_list_count mt_lcount (pt E X c) (pa_cons (pu E X c) pa_nil (star_ok hy)) (base_ok hx) (one_few hy) hl (star_ok hy) rfl
    rw [c.K] at this
    exact this
/-! ### targets -/
def gNames : List Nat → TGs
  | [] => gNil
  | i :: is => gCons (gName i) (gNames is)
def gOf (K : PySem.W.Frag) : Tg → TG
  | .one i => gName i
  | .tup is => gTup K is.length (gNames is)
theorem names_ok {raw : Scope} (c : CtxOk C sc E X) (hf : ∀ x, raw.names.lookup x = some .cell → X.fn x = true) : ∀ {is : List Nat} {es : List Expr}, ckNames C.ci sc raw is es = true →
    PGs X es (gNames is) ∧ SemGs C (gNames is) is ∧ (assignEach es X.env).length = is.length ∧ (assignEach es X.env).findIdx? (·.1) = none ∧ ∀ i x p, is = [i] → es = [.Name x p] → PG X (.Name x p) (gName i)
  | [], [], _ => ⟨pgs_nil, sem_gnil, rfl, rfl, fun _ _ _ h => by cases h⟩
  | [], _ :: _, h => by cases h
  | _ :: _, [], h => by cases h
  | i :: is, e :: es, h => by
    cases e <;> first | (cases h; done) | skip
    rename_i x pos
    simp only [ckNames, Bool.and_eq_true, Bool.or_eq_true, decide_eq_true_eq] at h
    obtain ⟨⟨⟨h1, h2⟩, h3⟩, h4⟩ := h
    obtain ⟨a1, a2, a3, a4, _⟩ := names_ok c hf h4
    have pg : ∀ p, PG X (.Name x p) (gName i) := fun p => pg_name (by rw [c.N]; exact c.nd) (by rw [c.N]; exact h1) (by
      rw [c.scp]; exact h2.imp id fun q => q.1) (by
      rw [c.scp]; exact h2.elim .inr fun q => .inl (hf x q.2))
    refine ⟨pgs_cons (pg pos) a1, sem_gcons h3 a2, by show (assignEach es X.env).length + 1 = _; rw [a3]; rfl, ?_, fun j y p e1 e2 => ?_⟩
    · show List.findIdx? (·.1) ((false, _) :: assignEach es X.env) = none
      rw [List.findIdx?_cons]
      simp [a4]
    · cases e1; cases e2; exact pg _
theorem g_ok {raw : Scope} (c : CtxOk C sc E X) (hf : ∀ x, raw.names.lookup x = some .cell → X.fn x = true) {g : Tg} {tg : Expr} (h : ckG C.ci sc raw g tg = true) : PG X tg (gOf C.K g) := by
  cases g with
  | one i =>
    have h : ckNames C.ci sc raw [i] [tg] = true := h
    cases tg <;> first | (cases h; done) | skip
    exact (names_ok c hf h).2.2.2.2 _ _ _ rfl rfl
  | tup is =>
    cases tg <;> first | (cases h; done) | skip
    rename_i es k pos
    have h : ckNames C.ci sc raw is es = true := h
    obtain ⟨a1, a2, a3, a4, _⟩ := names_ok c hf h
    have := pg_tup (pos := pos) (k := k) c.calm a1 a3 a4
    rw [c.K] at this
    exact this
theorem names_g {raw : Scope} : ∀ {is : List Nat} {es : List Expr}, ckNames C.ci sc raw is es = true → SemGs C (gNames is) is ∧ ∀ i ∈ is, C.g i = 0
  | [], [], _ => ⟨sem_gnil, fun i h => by simp at h⟩
  | [], _ :: _, h => by cases h
  | _ :: _, [], h => by cases h
  | i :: is, e :: es, h => by
    cases e <;> first | (cases h; done) | skip
    simp only [ckNames, Bool.and_eq_true, Bool.or_eq_true, decide_eq_true_eq] at h
    obtain ⟨⟨⟨h1, h2⟩, h3⟩, h4⟩ := h
    obtain ⟨a1, a2⟩ := names_g h4
    refine ⟨sem_gcons h3 a1, fun j hj => ?_⟩
    rcases List.mem_cons.mp hj with rfl | hj
    · exact h3
    · exact a2 j hj
theorem g_sem {raw : Scope} {g : Tg} {tg : Expr} (h : ckG C.ci sc raw g tg = true) : SemG C (gOf C.K g) (bindT g) (tgs g) ∧ ∀ i ∈ tgs g, C.g i = 0 := by
  cases g with
  | one i =>
    obtain ⟨_, a2⟩ := names_g (show ckNames C.ci sc raw [i] [tg] = true from h)
    exact ⟨sem_gone (a2 i (by simp)), a2⟩
  | tup is =>
    cases tg <;> first | (cases h; done) | skip
    rename_i es k pos
    obtain ⟨a1, a2⟩ := names_g (show ckNames C.ci sc raw is es = true from h)
    exact ⟨sem_gtup a1 rfl, a2⟩
theorem bindL_exc : ∀ {is : List Nat} {ds : List D} {env : Env} {c : Nat} {x : D}, bindL is ds env ≠ .exc c x
  | [], [], _, _, _ => nofun
  | [], _ :: _, _, _, _ => nofun
  | _ :: _, [], _, _, _ => nofun
  | i :: is, d :: ds, env, c, x => bindL_exc (is := is) (ds := ds)
theorem bindT_exc {g : Tg} (d : D) (env : Env) (c : Nat) (x : D) : bindT g d env ≠ .exc c x := by
  cases g with
  | one i => intro h; cases h
  | tup is =>
    cases d <;> first | (intro h; cases h; done) | skip
    exact bindL_exc

/-! ### a comprehension's block -/
theorem blk_ctx (c : CtxOk C sc E X) {scope : Scope} {own : List (Str × Nat)} (ok : BlkOk C.N sc scope own) (s : Shared) (H : Hp) (a : Addr) (cl : List (Str × Addr)) (fp : List Addr) : CtxOk C (relS scope sc) E0 (X.blk s H scope (compEnvC scope cl a X.env) fp) :=
  ⟨c.prog, c.w, c.K, c.mg, c.base, c.N, c.nd, by rw [← c.scp]; rfl, ok.kind, c.calm, c.room, passL, PassesOwn.never⟩
theorem ok_lc {g : Tg} {w : Wk} {c : Tss} {el : Ex} {e : Expr} {p : Bool} (iw : ∀ tg it, ckW C.ci sc w tg it = true → OkW C sc w tg it) (ic : ∀ sc xs, ckTss C.ci sc c xs = true → OkIf C sc c xs) (ie : ∀ sc e, ck C.ci sc false el e = true → OkE C sc el e) (h : ck C.ci sc p (.lc g w c el) e = true) : OkX C sc p (.lc g w c el) e := by
  simp only [ck] at h
  split at h <;> first | contradiction | skip
  rename_i elt tg iter ifs k scope pos
  simp only [Bool.and_eq_true, decide_eq_true_eq] at h
  obtain ⟨⟨⟨⟨⟨⟨⟨⟨rfl, h1⟩, h2⟩, h3⟩, h4⟩, h5⟩, h6⟩, h7⟩, h8⟩ := h
  have bok := blkOk_ok h1
  obtain ⟨tw, pw, sw⟩ := iw tg iter h4
  obtain ⟨tc, pc, sc'⟩ := ic _ ifs h6
  obtain ⟨te, pe, _, _, se⟩ := ie _ elt h7
  obtain ⟨sg, g0⟩ := g_sem h3
  have hown : (ownOf C.ci g).map (·.2) = tgs g := h2
  have fnc : ∀ {X : Cx} (s : Shared) (H : Hp) (a : Addr) (cl : List (Str × Addr)) (fp : List Addr), ∀ x, scope.names.lookup x = some .cell → (X.blk s H scope (compEnvC scope cl a X.env) fp).fn x = true := fun s H a cl fp x hx => by
    show (scope.names.lookup x == some .cell) = true
    rw [hx]; rfl
  refine OkE.x (ir := .lc g w c el) (show OkE C sc (.lc g w c el) (.ListComp elt [⟨tg, iter, ifs, 0⟩] scope pos) from ⟨fun E => tLc (tw E) (gOf C.K g) (tc E0) (te E0) (tgs g), fun E X c => ?_, fun q => (nomatch q), fun E X c => Or.inr fun i y py spos hy hyl hsw => ?_, fun E => ?_⟩) rfl rfl p
  · rw [← hown]
    exact pe_lc c.calm (by rw [c.N]; exact c.nd) (pw E X c) (by rw [c.N, c.scp]; exact bok) (fun s H a cl fp => g_ok (blk_ctx c bok s H a cl fp) (fnc s H a cl fp) h3) (fun s H a cl fp => pc E0 _ (blk_ctx c bok s H a cl fp)) (fun s H a cl fp => pe E0 _ (blk_ctx c bok s H a cl fp)) (set_ok h5)
  · rw [← hown]
    exact ps_setLc c.calm (by rw [c.N]; exact c.nd) hy hyl hsw (pw E X c) (by rw [c.N, c.scp]; exact bok) (fun s H a cl fp => g_ok (blk_ctx c bok s H a cl fp) (fnc s H a cl fp) h3) (fun s H a cl fp => pc E0 _ (blk_ctx c bok s H a cl fp)) (fun s H a cl fp => pe E0 _ (blk_ctx c bok s H a cl fp)) (set_ok h5)
  · exact sem_lc (sw E) sg (sc' E0) (se E0) g0 (free_ok h8)
theorem ok_dc {g : Tg} {w : Wk} {c : Tss} {ek el : Ex} {e : Expr} {p : Bool} (iw : ∀ tg it, ckW C.ci sc w tg it = true → OkW C sc w tg it) (ic : ∀ sc xs, ckTss C.ci sc c xs = true → OkIf C sc c xs) (ik : ∀ sc e, ck C.ci sc false ek e = true → OkE C sc ek e) (ie : ∀ sc e, ck C.ci sc false el e = true → OkE C sc el e) (h : ck C.ci sc p (.dc g w c ek el) e = true) : OkX C sc p (.dc g w c ek el) e := by
  simp only [ck] at h
  split at h <;> first | contradiction | skip
  rename_i kx vx tg iter ifs n scope pos
  simp only [Bool.and_eq_true, decide_eq_true_eq] at h
  obtain ⟨⟨⟨⟨⟨⟨⟨⟨⟨rfl, h1⟩, h2⟩, h3⟩, h4⟩, h5⟩, h6⟩, h7⟩, h8⟩, h9⟩ := h
  have bok := blkOk_ok h1
  obtain ⟨tw, pw, sw⟩ := iw tg iter h4
  obtain ⟨tc, pc, sc'⟩ := ic _ ifs h6
  obtain ⟨tk, pk, _, _, sk⟩ := ik _ kx h7
  obtain ⟨tv, pv, _, _, sv⟩ := ie _ vx h8
  obtain ⟨sg, g0⟩ := g_sem h3
  have hown : (ownOf C.ci g).map (·.2) = tgs g := h2
  have fnc : ∀ {X : Cx} (s : Shared) (H : Hp) (a : Addr) (cl : List (Str × Addr)) (fp : List Addr), ∀ x, scope.names.lookup x = some .cell → (X.blk s H scope (compEnvC scope cl a X.env) fp).fn x = true := fun s H a cl fp x hx => by
    show (scope.names.lookup x == some .cell) = true
    rw [hx]; rfl
  refine OkE.x (ir := .dc g w c ek el) (show OkE C sc (.dc g w c ek el) (.DictComp kx vx [⟨tg, iter, ifs, 0⟩] scope pos) from ⟨fun E => tDc (tw E) (gOf C.K g) (tc E0) (tk E0) (tv E0) (tgs g), fun E X c => ?_, fun q => (nomatch q), fun E X c => Or.inr fun i y py spos hy hyl hsw => ?_, fun E => ?_⟩) rfl rfl p
  · rw [← hown]
    exact pe_dc c.calm (by rw [c.N]; exact c.nd) (pw E X c) (by rw [c.N, c.scp]; exact bok) (fun s H a cl fp => g_ok (blk_ctx c bok s H a cl fp) (fnc s H a cl fp) h3) (fun s H a cl fp => pc E0 _ (blk_ctx c bok s H a cl fp)) (fun s H a cl fp => pk E0 _ (blk_ctx c bok s H a cl fp)) (fun s H a cl fp => pv E0 _ (blk_ctx c bok s H a cl fp)) (set_ok h5)
  · rw [← hown]
    exact ps_setDc c.calm (by rw [c.N]; exact c.nd) hy hyl hsw (pw E X c) (by rw [c.N, c.scp]; exact bok) (fun s H a cl fp => g_ok (blk_ctx c bok s H a cl fp) (fnc s H a cl fp) h3) (fun s H a cl fp => pc E0 _ (blk_ctx c bok s H a cl fp)) (fun s H a cl fp => pk E0 _ (blk_ctx c bok s H a cl fp)) (fun s H a cl fp => pv E0 _ (blk_ctx c bok s H a cl fp)) (set_ok h5)
  · exact sem_dc (sw E) sg (sc' E0) (sk E0) ((sv E0).lw (Nat.zero_le _)) g0 (free_ok h9)
theorem ok_dnew {t : Bool} {e : Expr} {p : Bool} (h : ck C.ci sc p (.dnew t) e = true) : OkX C sc p (.dnew t) e := by
  simp only [ck] at h
  split at h <;> first | contradiction | skip
  rename_i pos
  cases t <;> first | (cases h; done) | skip
  exact OkE.x (ir := .dnew false) (OkE.mk (ir := .dnew false) (fun _ => tDNewK) (fun E X c => pe_dnewK) fun E => sem_dnewK) rfl rfl p

/-! ### calls -/
def ShapeA : Exs → List (Sum D Nat) → Prop
  | .nil, l => l = []
  | .cons (.io x) r, l => ∃ q, l = .inr x :: q ∧ ShapeA r q
  | .cons _ r, l => ∃ d q, l = .inl d :: q ∧ ShapeA r q
theorem evAs_io {cal : Cal} {x : Nat} {r : Exs} {env : Env} : evAs cal (.cons (.io x) r) env = (getv x env).bind fun _ => (evAs cal r env).bind fun q => .ok (.inr x :: q.1, q.2) := rfl
def isIo : Ex → Bool
  | .io _ => true
  | _ => false
theorem evAs_val {cal : Cal} {e : Ex} (h : isIo e = false) {r : Exs} : evAs cal (.cons e r) = fun env => (evE cal e env).bind fun p => (evAs cal r p.2).bind fun q => .ok (.inl p.1 :: q.1, q.2) := by
  cases e <;> first | rfl | (cases h; done)
theorem R.bind_eq {α β : Type} {x : R α} {f : α → R β} {b : β} (h : x.bind f = .ok b) : ∃ a, x = .ok a ∧ f a = .ok b := by
  cases x with
  | ok a => exact ⟨a, rfl, h⟩
  | exc c d => cases h
  | bad => cases h
theorem evAs_shape {cal : Cal} : ∀ {es : Exs} {env : Env} {q : List (Sum D Nat) × Env}, evAs cal es env = .ok q → ShapeA es q.1
  | .nil, env, q, h => by
    have h : R.ok (([] : List (Sum D Nat)), env) = .ok q := h
    cases h; rfl
  | .cons e r, env, q, h => by
    by_cases c : isIo e = true
    · cases e <;> first | (cases c; done) | skip
      rename_i x
      rw [evAs_io] at h
      obtain ⟨_, _, h⟩ := R.bind_eq h
      obtain ⟨b, hb, h⟩ := R.bind_eq h
      cases h
      exact ⟨_, rfl, evAs_shape hb⟩
    · have c : isIo e = false := by simpa using c
      rw [evAs_val c] at h
      obtain ⟨a, _, h⟩ := R.bind_eq h
      obtain ⟨b, hb, h⟩ := R.bind_eq h
      cases h
      have := evAs_shape hb
      cases e <;> first | (cases c; done) | exact ⟨_, _, rfl, this⟩
theorem fit_io {I : CI} {fd : Fd} {j x : Nat} {r : Exs} (h : ioFit I fd j (.cons (.io x) r) = true) : fd.io[j]? = some true ∧ fd.g j = I.g x ∧ ioFit I fd (j + 1) r = true := by
  simp only [ioFit, Bool.and_eq_true, decide_eq_true_eq] at h
  exact ⟨h.1.1, h.1.2, h.2⟩
theorem fit_val {I : CI} {fd : Fd} {j : Nat} {e : Ex} {r : Exs} (c : isIo e = false) (h : ioFit I fd j (.cons e r) = true) : fd.io[j]? ≠ some true ∧ fd.g j = 0 ∧ ioFit I fd (j + 1) r = true := by
  cases e <;> first | (cases c; done) | skip
  all_goals
    simp only [ioFit, Bool.and_eq_true, decide_eq_true_eq, Bool.not_eq_true', decide_eq_false_iff_not] at h
    exact ⟨h.1.1, h.1.2, h.2⟩
theorem ioOf_io {x : Nat} {r : Exs} : ioOf (.cons (.io x) r) = x :: ioOf r := rfl
theorem ioOf_val {e : Ex} {r : Exs} (c : isIo e = false) : ioOf (.cons e r) = ioOf r := by
  cases e <;> first | rfl | (cases c; done)
theorem ShapeA.val {e : Ex} {r : Exs} {l : List (Sum D Nat)} (c : isIo e = false) (h : ShapeA (.cons e r) l) : ∃ d q, l = .inl d :: q ∧ ShapeA r q := by
  cases e <;> first | exact h | (cases c; done)
theorem shape_fit {I : CI} {fd : Fd} : ∀ {es : Exs} {l : List (Sum D Nat)} {j : Nat}, ShapeA es l → ioFit I fd j es = true → l.length + j = fd.np ∧ (∀ (i x : Nat), l[i]? = some (Sum.inr x) → x ∈ ioOf es ∧ fd.g (j + i) = I.g x ∧ fd.io[j + i]? = some true) ∧
    (∀ (i : Nat) (d : D), l[i]? = some (Sum.inl d) → fd.g (j + i) = 0 ∧ fd.io[j + i]? ≠ some true) ∧ ((ioOf es).Nodup → ∀ (i k x : Nat), l[i]? = some (Sum.inr x) → l[k]? = some (Sum.inr x) → i = k)
  | .nil, l, j, h, f => by
    cases (show l = [] from h)
    refine ⟨by simpa [ioFit] using f, fun i x e => by simp at e, fun i d e => by simp at e, fun _ i k x e => by simp at e⟩
  | .cons e r, l, j, h, f => by
    by_cases c : isIo e = true
    · cases e <;> first | (cases c; done) | skip
      rename_i y
      obtain ⟨q, rfl, hq⟩ := h
      obtain ⟨f1, f2, f3⟩ := fit_io f
      obtain ⟨i1, i2, i3, i4⟩ := shape_fit hq f3
      refine ⟨by simp only [List.length_cons]; omega, fun i x e => ?_, fun i d e => ?_, fun nd i k x e1 e2 => ?_⟩
      · cases i with
        | zero => simp at e; subst e; exact ⟨by rw [ioOf_io]; exact List.mem_cons_self, f2, f1⟩
        | succ i =>
          obtain ⟨g1, g2, g3⟩ := i2 i x (by simpa using e)
          rw [show j + 1 + i = j + (i + 1) by omega] at g2 g3
          exact ⟨by rw [ioOf_io]; exact List.mem_cons_of_mem _ g1, g2, g3⟩
      · cases i with
        | zero => simp at e
        | succ i =>
          obtain ⟨g1, g2⟩ := i3 i d (by simpa using e)
          rw [show j + 1 + i = j + (i + 1) by omega] at g1 g2
          exact ⟨g1, g2⟩
      · rw [ioOf_io] at nd
        obtain ⟨n1, n2⟩ := List.nodup_cons.mp nd
        cases i with
        | zero =>
          cases k with
          | zero => rfl
          | succ k => simp at e1; subst e1; exact absurd (i2 k y (by simpa using e2)).1 n1
        | succ i =>
          cases k with
          | zero => simp at e2; subst e2; exact absurd (i2 i y (by simpa using e1)).1 n1
          | succ k => rw [i4 n2 i k x (by simpa using e1) (by simpa using e2)]
    · have c : isIo e = false := by simpa using c
      obtain ⟨d, q, rfl, hq⟩ := h.val c
      obtain ⟨f1, f2, f3⟩ := fit_val c f
      obtain ⟨i1, i2, i3, i4⟩ := shape_fit hq f3
      refine ⟨by simp only [List.length_cons]; omega, fun i x e => ?_, fun i d e => ?_, fun nd i k x e1 e2 => ?_⟩
      · cases i with
        | zero => simp at e
        | succ i =>
          obtain ⟨g1, g2, g3⟩ := i2 i x (by simpa using e)
          rw [show j + 1 + i = j + (i + 1) by omega] at g2 g3
          exact ⟨by rw [ioOf_val c]; exact g1, g2, g3⟩
      · cases i with
        | zero => exact ⟨f2, f1⟩
        | succ i =>
          obtain ⟨g1, g2⟩ := i3 i d (by simpa using e)
          rw [show j + 1 + i = j + (i + 1) by omega] at g1 g2
          exact ⟨g1, g2⟩
      · rw [ioOf_val c] at nd
        cases i with
        | zero => simp at e1
        | succ i =>
          cases k with
          | zero => simp at e2
          | succ k => rw [i4 nd i k x (by simpa using e1) (by simpa using e2)]
theorem ok_anil : OkA C sc .nil [] := ⟨fun _ => tNil, fun E X c => pa_nil, fun E => sem_anil⟩
theorem ok_aio {i : Nat} {r : Exs} {x : Expr} {xs : List Expr} (hv : isVar C.ci sc i x = true) (hs : noStar x = true) (g : OkA C sc r xs) : OkA C sc (.cons (.io i) r) (x :: xs) := by
  obtain ⟨u, pu, su⟩ := g
  exact ⟨fun E => tCons (tVar i) (u E), fun E X c => pa_cons (var_ok c hv) (pu E X c) (star_ok hs), fun E => sem_aio (su E)⟩
theorem ok_aval {e : Ex} {r : Exs} {x : Expr} {xs : List Expr} (c : isIo e = false) (h : OkE C sc e x) (hs : noStar x = true) (g : OkA C sc r xs) : OkA C sc (.cons e r) (x :: xs) := by
  obtain ⟨t, pe, _, _, se⟩ := h
  obtain ⟨u, pu, su⟩ := g
  refine ⟨fun E => tCons (t E) (u E), fun E X c => pa_cons (pe E X c) (pu E X c) (star_ok hs), fun E => ?_⟩
  rw [evAs_val c]
  exact sem_acons ((se E).lw (Nat.zero_le _)) (su E)
theorem ok_call (F : Facts C) {f : Nat} {es : Exs} {e : Expr} {p : Bool} (ia : ∀ xs, noStars xs = true → ckAs C.ci sc es xs = true → OkA C sc es xs) (h : ck C.ci sc p (.call f es) e = true) : OkX C sc p (.call f es) e := by
  simp only [ck] at h
  split at h <;> first | contradiction | skip
  rename_i x xp xs pos
  simp only [Bool.and_eq_true] at h
  obtain ⟨⟨h, h2⟩, h3⟩ := h
  split at h <;> first | contradiction | skip
  rename_i fd hfd
  simp only [Bool.and_eq_true, decide_eq_true_eq] at h
  obtain ⟨⟨⟨⟨⟨rfl, h4⟩, h5⟩, h6⟩, h7⟩, h8⟩ := h
  obtain ⟨t, pt, st, ht⟩ : ∃ t : XK → TA, (∀ E X, CtxOk C sc E X → PA X xs (t E)) ∧ (∀ E, SemA C E (t E) (evAs C.cal es) (tEs es)) ∧ (xs = [] → t = fun _ => tNil) := by
    cases xs with
    | nil =>
      have : es = .nil := by
        cases es with
        | nil => rfl
        | cons e r => cases e <;> cases h2
      subst this
      exact ⟨fun _ => tNil, fun E X c => pa_nil, fun E => sem_anil, fun _ => rfl⟩
    | cons a as =>
      obtain ⟨t, pt, st⟩ := ia _ h3 h2
      exact ⟨t, pt, st, fun e => nomatch e⟩
  obtain ⟨m, kp, bi, fo⟩ := F.fn f fd hfd h8
  have hlv : lvE C.ci (.call f es) = fd.rt := by
    show (match C.ci.tbl[f]? with | some fd => fd.rt | none => 0) = _
    rw [hfd]
  refine OkE.x (ir := .call f es) (OkE.mk (ir := .call f es) (fun E => tCall (spF C fd f) [] E (t E)) (fun E X c => ?_) fun E => ?_) rfl rfl p
  · obtain ⟨gl, g2, g3⟩ := glb_ok c h4
    have fo' : FnOk X.prog X.w X.K X.mg X.base (L2.CX X.prog X.w) C.k (C.adr f) (C.fda f) (fd.N.take fd.np) (spF C fd f) := by rw [c.prog, c.w, c.K, c.mg, c.base]; exact fo
    have bi' : Binds X.K (C.fda f) (fd.N.take fd.np) [] := by rw [c.K]; exact bi
    have m' : X.mg fd.nm = some (.ref (C.adr f)) := by rw [c.mg]; exact m
    have kp' : PySem.W.keepIn X.K (.ref (C.adr f)) = true := by rw [c.K]; exact kp
    cases xs with
    | nil =>
      rw [ht rfl]
      exact pe_call0 fo' c.room gl m' kp' bi' .nil c.pass g3
    | cons a as =>
      have hs : (noStar a && noStars as) = true := h3
      rw [Bool.and_eq_true] at hs
      exact pe_call fo' c.room gl m' kp' bi' .nil c.pass (pt E X c) g3 (star_ok hs.1) (stars_any hs.2)
  · rw [hlv]
    refine sem_call (st E) (fun env q e => ?_) (fun env q e => ?_) (fun env q e i x hi => ?_) (fun env q e i d hi => ?_) fun i hi => ?_
    · exact (shape_fit (evAs_shape e) h5).1
    · exact (shape_fit (evAs_shape e) h5).2.2.2 h6
    · obtain ⟨g1, g2, g3⟩ := (shape_fit (evAs_shape e) h5).2.1 i x hi
      rw [Nat.zero_add] at g2 g3
      exact ⟨g1, g2, mem_ioIx.mpr g3⟩
    · obtain ⟨g1, g2⟩ := (shape_fit (evAs_shape e) h5).2.2.1 i d hi
      rw [Nat.zero_add] at g1 g2
      exact ⟨g1, fun w => g2 (mem_ioIx.mp w)⟩
    · obtain ⟨w, _⟩ := List.getElem?_eq_some_iff.mp (mem_ioIx.mp hi)
      omega
/-! ### isinstance, displays of dicts, constants -/
theorem ok_isi (hbl : ∀ x ∈ C.bl, BlOk C.mg x) {a : Ex} {o : Bool} {ts : List Ty} {e : Expr} {p : Bool} (ia : ∀ e, ck C.ci sc true a e = true → OkP C sc a e) (h : ck C.ci sc p (.isi a o ts) e = true) : OkX C sc p (.isi a o ts) e := by
  simp only [ck] at h
  split at h <;> first | contradiction | skip
  rename_i f x t pos
  simp only [Bool.and_eq_true] at h
  obtain ⟨⟨⟨⟨hx, ht⟩, h1⟩, h2⟩, h3⟩ := h
  obtain ⟨u, pu, su⟩ := ia x h2
  have call : ∀ {E X} {r : List V → Hp → VK → Prop} {w : TE}, CtxOk C sc E X → CallR X (.builtin "isinstance") r → PE X t w → PE X (.Call f [x, t] [] pos) (tCB r (tCons (u E) (tCons w tNil))) := fun {E X r w} c hr pw => by
    obtain ⟨p, rfl, g, n1, n2, m⟩ := isBlt_ok c hbl h1
    exact pe_callB hr g m PyProof.Rows.boot_isinstance (pa_cons (pu E X c) (pa_cons pw pa_nil (star_ok ht)) (star_ok hx)) n1 n2 (star_ok hx) (stars_any (by show (noStar t && true) = true; rw [ht]; rfl))
  unfold ckTys at h3
  split at h3
  · rename_i es k tp
    simp only [Bool.and_eq_true, decide_eq_true_eq] at h3
    refine OkE.x (ir := .isi a o ts) (OkE.mk (ir := .isi a o ts) (fun E => tCB (rIsiT C.K) (tCons (u E) (tCons (tTup (tyCs ts)) tNil))) (fun E X c => ?_) fun E => sem_isiT h3.2 (su E)) rfl rfl p
    have := call c call_isiT (pe_tup (pos := tp) (x1 := k) (pa_tys c hbl h3.1))
    rw [c.K] at this
    exact this
  · split at h3 <;> first | contradiction | skip
    rename_i ty
    refine OkE.x (ir := .isi a o [ty]) (OkE.mk (ir := .isi a o [ty]) (fun E => tCB (rIsi C.K) (tCons (u E) (tCons (tC (.ty (tyT ty))) tNil))) (fun E X c => ?_) fun E => sem_isi1 (su E)) rfl rfl p
    have := call c call_isi (pe_ty c hbl h3)
    rw [c.K] at this
    exact this
def OkDD (C : CC) (sc : Scope) (kvs : Exs) (ks : List (Option Expr)) (vs : List Expr) : Prop := ∃ t : XK → List (TE × TE), (∀ E X, CtxOk C sc E X → ∀ pos, PPs X pos ks vs (t E)) ∧ (∀ E, SemPs C E (t E) (evEs C.cal kvs) (tEs kvs)) ∧ ks.all (·.isSome) = true ∧ ks.length = vs.length
theorem ok_dd0 : OkDD C sc .nil [] [] := ⟨fun _ => [], fun E X c pos => pps_nil, fun E => sem_pnil, rfl, rfl⟩
theorem ok_dd2 {k v : Ex} {r : Exs} {a b : Expr} {ks : List (Option Expr)} {vs : List Expr} (hk : OkE C sc k a) (hv : OkE C sc v b) (h : OkDD C sc r ks vs) : OkDD C sc (.cons k (.cons v r)) (some a :: ks) (b :: vs) := by
  obtain ⟨t, pt, _, _, st⟩ := hk
  obtain ⟨u, pu, _, _, su⟩ := hv
  obtain ⟨w, pw, sw, h1, h2⟩ := h
  exact ⟨fun E => (t E, u E) :: w E, fun E X c pos => pps_cons (pt E X c) (pu E X c) (pw E X c pos), fun E => sem_pcons ((st E).lw (Nat.zero_le _)) ((su E).lw (Nat.zero_le _)) (sw E), by rw [List.all_cons, h1]; rfl, by simp [h2]⟩
theorem ok_ddsp {kvs : Exs} {e : Expr} {p : Bool} (ih : ∀ ks vs, ckDD C.ci sc kvs ks vs = true → OkDD C sc kvs ks vs) (h : ck C.ci sc p (.ddsp kvs) e = true) : OkX C sc p (.ddsp kvs) e := by
  simp only [ck] at h
  split at h <;> first | contradiction | skip
  rename_i ks vs pos
  simp only [Bool.and_eq_true, decide_eq_true_eq, Bool.not_eq_true'] at h
  obtain ⟨⟨h1, h2⟩, h3⟩ := h
  obtain ⟨t, pt, st, ha, hl⟩ := ih ks vs h1
  exact OkE.x (ir := .ddsp kvs) (OkE.mk (ir := .ddsp kvs) (fun E => tDisp (t E)) (fun E X c => pe_disp (pt E X c pos) ha hl (fun e => by rw [e] at h2; cases h2) h3) fun E => sem_ddsp (st E)) rfl rfl p
theorem ok_glo (F : Facts C) {f : Nat} {e : Expr} {p : Bool} (h : ck C.ci sc p (.glo f) e = true) : OkX C sc p (.glo f) e := by
  simp only [ck] at h
  split at h <;> first | contradiction | skip
  rename_i x pos
  simp only [Bool.and_eq_true, decide_eq_true_eq] at h
  obtain ⟨⟨h1, h2⟩, h3⟩ := h
  split at h3 <;> first | contradiction | skip
  rename_i fd hfd
  have h3 : fd.nm = x := of_decide_eq_true h3
  obtain ⟨v, u, m, r, g1, g2⟩ := F.gl f fd hfd h1
  refine OkE.x (ir := .glo f) (OkE.mk (ir := .glo f) (fun _ => tC v) (fun E X c => ?_) fun E => sem_glo g1 g2) rfl rfl p
  obtain ⟨gl, _, g3⟩ := glb_ok c h2
  exact pe_glob gl (by rw [c.mg, ← h3]; exact m) r g3
/-! ### paths, pop -/
theorem ok_q0 {x : Nat} {e : Expr} (h : ckQ C.ci sc x .nil e = true) : OkQ C sc x .nil e := by
  have hv : isVar C.ci sc x e = true := by simpa only [ckQ] using h
  exact ⟨fun _ => tVar x, fun E X c => var_ok c hv, Nat.zero_le _, fun _ E => sem_q0⟩
theorem ok_q1 {x : Nat} {k : Ex} {e : Expr} (ik : ∀ e, ck C.ci sc true k e = true → OkP C sc k e) (h : ckQ C.ci sc x (.cons k .nil) e = true) : OkQ C sc x (.cons k .nil) e := by
  cases e <;> first | (cases h; done) | skip
  rename_i l r pos
  simp only [ckQ, Bool.and_eq_true, decide_eq_true_eq] at h
  obtain ⟨⟨⟨h1, h2⟩, h3⟩, h4⟩ := h
  obtain ⟨t, pt, st⟩ := ik r h2
  refine ⟨fun E => tOp (rPth C.K) (tVar x) (t E), fun E X c => ?_, Nat.le_refl _, fun hg E => ?_⟩
  · have := pe_pth (pos := pos) c (var_ok c h1) (pt E X c) h3
    rw [c.K] at this
    exact this
  · exact (sem_q1 (st E) h4 hg).wk mem_nil
theorem okq_any {x : Nat} : ∀ {q : Exs} {e : Expr}, (∀ k, q = .cons k .nil → ∀ e, ck C.ci sc true k e = true → OkP C sc k e) → ckQ C.ci sc x q e = true → OkQ C sc x q e
  | .nil, e, _, h => ok_q0 h
  | .cons k .nil, e, ik, h => ok_q1 (ik k rfl) h
  | .cons k (.cons _ _), e, _, h => by cases h
theorem pa_cases {I : CI} {i : Nat} {es : Exs} {ys : List Expr} (h : ckPa I sc i es ys = true) : (es = .nil ∧ ys = []) ∨ ∃ k y, es = .cons k .nil ∧ ys = [y] ∧ (noStar y && ck I sc true k y && decide (i ∉ tE k)) = true := by
  match es, ys, h with
  | .nil, [], _ => exact .inl ⟨rfl, rfl⟩
  | .nil, _ :: _, h => cases h
  | .cons k .nil, [y], h => exact .inr ⟨k, y, rfl, rfl, by simpa only [ckPa] using h⟩
  | .cons k .nil, [], h => cases h
  | .cons k .nil, _ :: _ :: _, h => cases h
  | .cons k (.cons _ _), _, h => cases h
theorem ok_pop {i : Nat} {q es : Exs} {e : Expr} {p : Bool} (iq : ∀ e, ckQ C.ci sc i q e = true → OkQ C sc i q e) (ie : ∀ k, es = .cons k .nil → ∀ e, ck C.ci sc true k e = true → OkP C sc k e) (h : ck C.ci sc p (.pop i q es) e = true) : OkX C sc p (.pop i q es) e := by
  simp only [ck] at h
  split at h <;> first | contradiction | skip
  rename_i x m apos ys cpos
  simp only [Bool.and_eq_true, decide_eq_true_eq] at h
  obtain ⟨⟨⟨⟨⟨rfl, hx⟩, hl⟩, h3⟩, h4⟩, h5⟩ := h
  obtain ⟨t, pt, h6, st⟩ := iq x h3
  obtain ⟨n, hn⟩ : ∃ n, C.g i = lenEs q + (n + 1) := ⟨C.g i - lenEs q - 1, by have : lenEs q + 1 ≤ C.g i := h4; omega⟩
  have st := st (by omega)
  have hlv : lvE C.ci (.pop i q es) = n := by
    show C.g i - lenEs q - 1 = n
    omega
  rcases pa_cases h5 with ⟨rfl, rfl⟩ | ⟨k, y, rfl, rfl, h9⟩
  · refine OkE.x (ir := .pop i q .nil) (OkE.mk (ir := .pop i q .nil) (fun E => tBM0 C.K "list" rPop (t E)) (fun E X c => ?_) fun E => ?_) rfl rfl p
    · have := pe_bm0 (X := X) PySem.F.plainAttrs_list PySem.F.slot_list_pop PySem.F.type_list_pop mt_pop (pt E X c) (base_ok hx) hl
      rw [c.K] at this
      exact this
    · rw [hlv]
      have := sem_pop0 (q := n) (st E) hn
      exact this.wk fun i hi => by simp [tE, tEs] at hi ⊢; exact hi
  · simp only [Bool.and_eq_true, decide_eq_true_eq] at h9
    obtain ⟨⟨hy, h7⟩, h8⟩ := h9
    obtain ⟨u, pu, su⟩ := ie k rfl y h7
    refine OkE.x (ir := .pop i q (.cons k .nil)) (OkE.mk (ir := .pop i q (.cons k .nil)) (fun E => tBM C.K "list" rPopAt (t E) (tCons (u E) tNil)) (fun E X c => ?_) fun E => ?_) rfl rfl p
    · have := pe_bm (X := X) PySem.F.plainAttrs_list PySem.F.slot_list_pop PySem.F.type_list_pop mt_popAt (pt E X c) (pa_cons (pu E X c) pa_nil (star_ok hy)) (base_ok hx) (one_few hy) hl (star_ok hy) rfl
      rw [c.K] at this
      exact this
    · rw [hlv]
      have := sem_pop1 (q := n) (st E) (su E) hn h8
      exact this.wk fun i hi => by simp [tE, tEs] at hi ⊢; exact hi

/-! ### tests -/
theorem ok_tval {e : Ex} {x : Expr} (ih : ∀ x, ck C.ci sc false e x = true → OkE C sc e x) (h : ckT C.ci sc (.val e) x = true) : OkT C sc (.val e) x := by
  simp only [ckT, Bool.and_eq_true, Bool.or_eq_true] at h
  obtain ⟨h1, h2⟩ := h
  obtain ⟨t, pe, pt, _, se⟩ := ih x h1
  refine ⟨fun E => tTest (t E), fun E X c => ?_, fun E => sem_tB (se E)⟩
  rcases h2 with h2 | h2
  · exact pt_val (pe E X c) (test_ok h2)
  · exact pt (by cases x <;> first | rfl | (cases h2; done)) E X c
theorem ok_ttru {e : Ex} {x : Expr} (ih : ∀ x, ck C.ci sc true e x = true → OkP C sc e x) (h : ckT C.ci sc (.tru e) x = true) : OkT C sc (.tru e) x := by
  simp only [ckT, Bool.and_eq_true] at h
  obtain ⟨t, pe, se⟩ := ih x h.1
  refine ⟨fun E => fun σ H Q => t E σ H fun x H' => ∃ k, TruV C.K x H' k ∧ Q k H', fun E X c => ?_, fun E => sem_tT (se E)⟩
  have := pt_truth (pe E X c) (test_ok h.2)
  rw [c.K] at this
  exact this
theorem ok_tnt {t : Ts} {x : Expr} (ih : ∀ x, ckT C.ci sc t x = true → OkT C sc t x) (h : ckT C.ci sc (.nt t) x = true) : OkT C sc (.nt t) x := by
  simp only [ckT] at h
  split at h <;> first | contradiction | skip
  rename_i y pos
  obtain ⟨u, pu, su⟩ := ih y h
  exact ⟨fun E => tNot (u E), fun E X c => pt_not (pu E X c), fun E => sem_tN (su E)⟩
theorem ok_tand {ts : Tss} {x : Expr} (ih : ∀ xs, ckTs C.ci sc ts xs = true → OkTA C sc ts xs) (h : ckT C.ci sc (.and ts) x = true) : OkT C sc (.and ts) x := by
  simp only [ckT] at h
  split at h <;> first | contradiction | skip
  rename_i xs pos
  obtain ⟨u, pu, su⟩ := ih xs h
  exact ⟨u, fun E X c => (pu E X c pos).pt, su⟩
theorem ok_tor {ts : Tss} {x : Expr} (ih : ∀ xs, ckTs C.ci sc ts xs = true → OkTO C sc ts xs) (h : ckT C.ci sc (.or ts) x = true) : OkT C sc (.or ts) x := by
  simp only [ckT] at h
  split at h <;> first | contradiction | skip
  rename_i xs pos
  obtain ⟨u, pu, su⟩ := ih xs h
  exact ⟨u, fun E X c => (pu E X c pos).pt, su⟩
theorem ok_ta1 {t : Ts} {x : Expr} (h : OkT C sc t x) : OkTA C sc (.cons t .nil) [x] := by
  obtain ⟨u, pu, su⟩ := h
  exact ⟨u, fun E X c pos => pw_and1 (pu E X c), fun E => (su E).wk mem_nil⟩
theorem ok_ta2 {t u : Ts} {r : Tss} {x y : Expr} {xs : List Expr} (h : OkT C sc t x) (g : OkTA C sc (.cons u r) (y :: xs)) : OkTA C sc (.cons t (.cons u r)) (x :: y :: xs) := by
  obtain ⟨a, pa, sa⟩ := h
  obtain ⟨b, pb, sb⟩ := g
  exact ⟨fun E => tAnd (a E) (b E), fun E X c pos => pw_and (pa E X c) (pb E X c pos), fun E => sem_tAnd (sa E) (sb E)⟩
theorem ok_to1 {t : Ts} {x : Expr} (h : OkT C sc t x) : OkTO C sc (.cons t .nil) [x] := by
  obtain ⟨u, pu, su⟩ := h
  exact ⟨u, fun E X c pos => pw_or1 (pu E X c), fun E => (su E).wk mem_nil⟩
theorem ok_to2 {t u : Ts} {r : Tss} {x y : Expr} {xs : List Expr} (h : OkT C sc t x) (g : OkTO C sc (.cons u r) (y :: xs)) : OkTO C sc (.cons t (.cons u r)) (x :: y :: xs) := by
  obtain ⟨a, pa, sa⟩ := h
  obtain ⟨b, pb, sb⟩ := g
  exact ⟨fun E => tOr (a E) (b E), fun E X c pos => pw_or (pa E X c) (pb E X c pos), fun E => sem_tOr (sa E) (sb E)⟩
theorem ok_if0 : OkIf C sc .nil [] := ⟨fun _ => tYes, fun E X c => pts_nil, fun E => sem_tyes⟩
theorem ok_if1 {t : Ts} {x : Expr} (h : OkT C sc t x) : OkIf C sc (.cons t .nil) [x] := by
  obtain ⟨u, pu, su⟩ := h
  exact ⟨u, fun E X c => pts_one (pu E X c), fun E => (su E).wk mem_nil⟩

/-! ### what is walked -/
theorem ok_w1 (hbl : ∀ x ∈ C.bl, BlOk C.mg x) {a : Ex} {tg e : Expr} (ia : ∀ e, ck C.ci sc true a e = true → OkP C sc a e) (h : ckW C.ci sc (.rng1 a) tg e = true) : OkW C sc (.rng1 a) tg e := by
  simp only [ckW] at h
  split at h <;> first | contradiction | skip
  rename_i f x pos
  simp only [Bool.and_eq_true] at h
  obtain ⟨⟨hx, h1⟩, h2⟩ := h
  obtain ⟨t, pt, st⟩ := ia x h2
  refine ⟨fun E => iRng1 (tCons (t E) tNil), fun E X c => ?_, fun E => sem_wrng1 (st E)⟩
  obtain ⟨p, rfl, g, _, _, m⟩ := isBlt_ok c hbl h1
  exact pi_range1 g m (pa_cons (pt E X c) pa_nil (star_ok hx)) (star_ok hx)
theorem ok_w2 (hbl : ∀ x ∈ C.bl, BlOk C.mg x) {a b : Ex} {tg e : Expr} (ia : ∀ e, ck C.ci sc true a e = true → OkP C sc a e) (ib : ∀ e, ck C.ci sc true b e = true → OkP C sc b e) (h : ckW C.ci sc (.rng2 a b) tg e = true) : OkW C sc (.rng2 a b) tg e := by
  simp only [ckW] at h
  split at h <;> first | contradiction | skip
  rename_i f x y pos
  simp only [Bool.and_eq_true] at h
  obtain ⟨⟨⟨⟨⟨hx, hy⟩, h1⟩, h2⟩, h3⟩, h4⟩ := h
  obtain ⟨t, pt, st⟩ := ia x h2
  obtain ⟨u, pu, su⟩ := ib y h3
  refine ⟨fun E => iRng2 (tCons (t E) (tCons (u E) tNil)), fun E X c => ?_, fun E => sem_wrng2 (st E) (su E) (free_ok h4)⟩
  obtain ⟨p, rfl, g, _, _, m⟩ := isBlt_ok c hbl h1
  have e2 : starEach [y] X.env = [(false, eval y X.env)] := star_ok hy
  exact pi_range2 g m (pa_cons (pt E X c) (pa_cons (pu E X c) pa_nil (star_ok hy)) (star_ok hx)) (by rw [star_ok hx, e2]) e2
theorem ok_w3 (hbl : ∀ x ∈ C.bl, BlOk C.mg x) {a b d : Ex} {tg e : Expr} (ia : ∀ e, ck C.ci sc true a e = true → OkP C sc a e) (ib : ∀ e, ck C.ci sc true b e = true → OkP C sc b e) (id : ∀ e, ck C.ci sc true d e = true → OkP C sc d e) (h : ckW C.ci sc (.rng3 a b d) tg e = true) : OkW C sc (.rng3 a b d) tg e := by
  simp only [ckW] at h
  split at h <;> first | contradiction | skip
  rename_i f x y z pos
  simp only [Bool.and_eq_true] at h
  obtain ⟨⟨⟨⟨⟨⟨⟨⟨⟨hx, hy⟩, hz⟩, h1⟩, h2⟩, h3⟩, h4⟩, h5⟩, h6⟩, h7⟩ := h
  obtain ⟨t, pt, st⟩ := ia x h2
  obtain ⟨u, pu, su⟩ := ib y h3
  obtain ⟨v, pv, sv⟩ := id z h4
  refine ⟨fun E => iRng3 (tCons (t E) (tCons (u E) (tCons (v E) tNil))), fun E X c => ?_, fun E => sem_wrng3 (st E) (su E) (sv E) (free_ok h5) (free_ok h6) (free_ok h7)⟩
  obtain ⟨p, rfl, g, _, _, m⟩ := isBlt_ok c hbl h1
  exact pi_range3 g m (pa_cons (pt E X c) (pa_cons (pu E X c) (pa_cons (pv E X c) pa_nil (star_ok hz)) (star_ok hy)) (star_ok hx)) (star_ok hx) (stars_any (by show (noStar y && (noStar z && true)) = true; rw [hy, hz]; rfl))
theorem ok_wit {a : Ex} {tg e : Expr} (ia : ∀ e, ck C.ci sc true a e = true → OkP C sc a e) (h : ckW C.ci sc (.it a) tg e = true) : OkW C sc (.it a) tg e := by
  simp only [ckW, Bool.and_eq_true, decide_eq_true_eq] at h
  obtain ⟨t, pt, st⟩ := ia e h.1
  refine ⟨fun E => iAny C.K (t E), fun E X c => ?_, fun E => sem_wit (st E) h.2⟩
  refine ⟨fun pins s σ H R I hw => ?_⟩
  rcases hw with hw | hw | hw
  · exact (pi_list (pt E X c)).run pins s σ H R I (by rw [c.K]; exact hw)
  · exact (pi_tup (pt E X c)).run pins s σ H R I (by rw [c.K]; exact hw)
  · exact (pi_str (pt E X c)).run pins s σ H R I hw
theorem ok_wzip (hbl : ∀ x ∈ C.bl, BlOk C.mg x) {a b : Ex} {tg e : Expr} (ia : ∀ e, ck C.ci sc true a e = true → OkP C sc a e) (ib : ∀ e, ck C.ci sc true b e = true → OkP C sc b e) (h : ckW C.ci sc (.zip a b) tg e = true) : OkW C sc (.zip a b) tg e := by
  simp only [ckW] at h
  split at h <;> first | contradiction | skip
  rename_i elts k tpos f x y pos
  simp only [Bool.and_eq_true, Bool.or_eq_true, decide_eq_true_eq] at h
  obtain ⟨⟨⟨⟨⟨⟨⟨⟨hx, hy⟩, h1⟩, h2⟩, h3⟩, h4⟩, h5⟩, h6⟩, h7⟩ := h
  obtain ⟨t, pt, st⟩ := ia x h2
  obtain ⟨u, pu, su⟩ := ib y h3
  have hb : (∀ i, brw C.ci a = some i → brwW C.ci (.zip a b) = some i) ∧ ∀ i, brw C.ci b = some i → brwW C.ci (.zip a b) = some i := by
    have e : brwW C.ci (.zip a b) = if (brw C.ci a).isSome = true then brw C.ci a else brw C.ci b := rfl
    refine ⟨fun i hi => by rw [e, hi]; rfl, fun i hi => ?_⟩
    rw [e]
    cases q : brw C.ci a with
    | none => exact hi
    | some j =>
      rcases h7 with h7 | h7 | h7
      · rw [h7, q] at hi; exact hi
      · rw [h7] at hi; cases hi
      · rw [h7] at q; cases q
  refine ⟨fun E => iZip C.K (tCons (t E) (tCons (u E) tNil)), fun E X c => ?_, fun E => sem_wzip (st E) (su E) (free_ok h4) h5 h6 _ hb.1 hb.2⟩
  obtain ⟨p, rfl, g, _, _, m⟩ := isBlt_ok c hbl h1
  have := pi_zip (tpos := tpos) (elts := elts) (kk := k) (pos := pos) (p := p) g m (pa_cons (pt E X c) (pa_cons (pu E X c) pa_nil (star_ok hy)) (star_ok hx)) (star_ok hx) (stars_any (by show (noStar y && true) = true; rw [hy]; rfl))
  rw [c.K] at this
  exact this
theorem ok_wenum (hbl : ∀ x ∈ C.bl, BlOk C.mg x) {a : Ex} {tg e : Expr} (ia : ∀ e, ck C.ci sc true a e = true → OkP C sc a e) (h : ckW C.ci sc (.enum a) tg e = true) : OkW C sc (.enum a) tg e := by
  simp only [ckW] at h
  split at h <;> first | contradiction | skip
  rename_i elts k tpos f x pos
  simp only [Bool.and_eq_true, decide_eq_true_eq] at h
  obtain ⟨⟨⟨hx, h1⟩, h2⟩, h3⟩ := h
  obtain ⟨t, pt, st⟩ := ia x h2
  refine ⟨fun E => iEnum C.K (tCons (t E) tNil), fun E X c => ?_, fun E => sem_wenum (st E) h3⟩
  obtain ⟨p, rfl, g, _, _, m⟩ := isBlt_ok c hbl h1
  have := pi_enum (tpos := tpos) (elts := elts) (kk := k) (pos := pos) (p := p) g m (pa_cons (pt E X c) pa_nil (star_ok hx)) (star_ok hx)
  rw [c.K] at this
  exact this

/-! ### all together -/
section
variable (FF : Facts C)
include FF
omit FF in
theorem no_bad {e : Expr} {p : Bool} {ir : Ex} (h : (false : Bool) = true) : OkX C sc p ir e := nomatch h
mutual
theorem ck_ok : ∀ (ir : Ex) (sc : Scope) (p : Bool) (e : Expr), ck C.ci sc p ir e = true → OkX C sc p ir e
  | .var i, sc, p, e, h => ok_var h
  | .mv i, sc, p, e, h => ok_mv h
  | .io i, sc, p, e, h => no_bad (by simpa only [ck] using h)
  | .int z, sc, p, e, h => ok_int h
  | .str z, sc, p, e, h => ok_str h
  | .bl z, sc, p, e, h => ok_bl h
  | .non, sc, p, e, h => ok_non h
  | .un o a, sc, p, e, h => ok_un (fun e => ck_ok a sc true e) h
  | .bin o a b, sc, p, e, h => ok_bin (fun e => ck_ok a sc true e) (fun e => ck_ok b sc true e) h
  | .chain o o' a b c, sc, p, e, h => ok_chain (fun e => ck_ok a sc true e) (fun e => ck_ok b sc true e) (fun e => ck_ok c sc true e) h
  | .nt a, sc, p, e, h => ok_nt (fun e => ck_ok a sc false e) h
  | .band es, sc, p, e, h => ok_band (fun xs => ckAnd_ok es sc xs) h
  | .bor es, sc, p, e, h => ok_bor (fun xs => ckOr_ok es sc xs) h
  | .ite c a b, sc, p, e, h => ok_ite (fun e => ckT_ok c sc e) (fun e => ck_ok a sc false e) (fun e => ck_ok b sc false e) h
  | .lst es, sc, p, e, h => ok_lst (fun n hn xs => ckEs_ok es sc n hn xs) h
  | .tup es, sc, p, e, h => ok_tup (fun n hn xs => ckEs_ok es sc n hn xs) h
  | .slc lo hi a b c, sc, p, e, h => ok_slc (fun e => ck_ok a sc true e) (fun e => ck_ok b sc true e) (fun e => ck_ok c sc true e) h
  | .call f es, sc, p, e, h => ok_call FF (fun xs hs => ckAs_ok es sc xs hs) h
  | .b1 o a, sc, p, e, h => ok_b1 FF.bl (fun e => ck_ok a sc true e) h
  | .b2 o a b, sc, p, e, h => ok_b2 FF.bl (fun e => ck_ok a sc true e) (fun e => ck_ok b sc true e) h
  | .m1 o a b, sc, p, e, h => ok_m1 (fun e => ck_ok a sc true e) (fun e => ck_ok b sc true e) h
  | .isi a one ts, sc, p, e, h => ok_isi FF.bl (fun e => ck_ok a sc true e) h
  | .lc g w c el, sc, p, e, h => ok_lc (fun tg it => ckW_ok w sc tg it) (fun sc xs => ckTss_ok c sc xs) (fun sc e => ck_ok el sc false e) h
  | .dc g w c k v, sc, p, e, h => ok_dc (fun tg it => ckW_ok w sc tg it) (fun sc xs => ckTss_ok c sc xs) (fun sc e => ck_ok k sc false e) (fun sc e => ck_ok v sc false e) h
  | .lc2 g w c g1 w1 c1 el, sc, p, e, h => no_bad (by simpa only [ck] using h)
  | .dnew t, sc, p, e, h => ok_dnew h
  | .ddsp kvs, sc, p, e, h => ok_ddsp (fun ks vs h => ckDD_ok kvs sc ks vs h) h
  | .glo f, sc, p, e, h => ok_glo FF h
  | .pop i q es, sc, p, e, h => ok_pop (fun e => okq_any (fun k hk e h => ckOne_ok q sc k hk e h)) (fun k hk e h => ckOne_ok es sc k hk e h) h
  | .bad, sc, p, e, h => no_bad (by simpa only [ck] using h)
theorem ckDD_ok : ∀ (kvs : Exs) (sc : Scope) (ks : List (Option Expr)) (vs : List Expr), ckDD C.ci sc kvs ks vs = true → OkDD C sc kvs ks vs
  | .nil, sc, [], [], h => ok_dd0
  | .nil, sc, [], _ :: _, h => nomatch h
  | .nil, sc, _ :: _, _, h => nomatch h
  | .cons k .nil, sc, ks, vs, h => by cases ks <;> cases vs <;> cases h
  | .cons k (.cons v r), sc, ks, vs, h => by
    match ks, vs, h with
    | some a :: ks, b :: vs, h =>
      simp only [ckDD, Bool.and_eq_true] at h
      exact ok_dd2 (ck_ok k sc false a h.1.1) (ck_ok v sc false b h.1.2) (ckDD_ok r sc ks vs h.2)
theorem ckOne_ok : ∀ (es : Exs) (sc : Scope) (k : Ex), es = .cons k .nil → ∀ e, ck C.ci sc true k e = true → OkP C sc k e
  | .nil, _, _, h, _, _ => nomatch h
  | .cons a r, sc, k, h, e, hk => by
    have : a = k := by injection h
    subst this
    exact ck_ok a sc true e hk
theorem ckEs_ok : ∀ (es : Exs) (sc : Scope) (n : Nat), n ≤ lvEs C.ci es → ∀ xs, ckEs C.ci sc es xs = true → OkLn C sc n es xs
  | .nil, sc, n, _, [], h => ok_lnil'
  | .nil, sc, n, _, _ :: _, h => nomatch h
  | .cons e r, sc, n, hn, [], h => nomatch h
  | .cons e r, sc, n, hn, x :: xs, h => by
    simp only [ckEs, Bool.and_eq_true] at h
    have hn : n ≤ min (lvE C.ci e) (lvEs C.ci r) := hn
    exact ok_lcons (ck_ok e sc false x h.1.1) h.1.2 (Nat.le_trans hn (Nat.min_le_left _ _)) (ckEs_ok r sc n (Nat.le_trans hn (Nat.min_le_right _ _)) xs h.2)
theorem ckAnd_ok : ∀ (es : Exs) (sc : Scope) (xs : List Expr), ckVs C.ci sc es xs = true → OkAnd C sc es xs
  | .nil, sc, xs, h => by cases xs <;> cases h
  | .cons e r, sc, xs, h => by
    cases r with
    | nil =>
      match xs, h with
      | [x], h => exact ok_and1 (ck_ok e sc false x (by simpa only [ckVs] using h))
    | cons f r =>
      match xs, h with
      | x :: y :: xs, h =>
        simp only [ckVs, Bool.and_eq_true] at h
        exact ok_and2 (ck_ok e sc false x h.1) (ckAnd_ok (.cons f r) sc (y :: xs) (by simpa only [ckVs] using h.2))
theorem ckOr_ok : ∀ (es : Exs) (sc : Scope) (xs : List Expr), ckVs C.ci sc es xs = true → OkOr C sc es xs
  | .nil, sc, xs, h => by cases xs <;> cases h
  | .cons e r, sc, xs, h => by
    cases r with
    | nil =>
      match xs, h with
      | [x], h => exact ok_or1 (ck_ok e sc false x (by simpa only [ckVs] using h))
    | cons f r =>
      match xs, h with
      | x :: y :: xs, h =>
        simp only [ckVs, Bool.and_eq_true] at h
        exact ok_or2 (ck_ok e sc false x h.1) (ckOr_ok (.cons f r) sc (y :: xs) (by simpa only [ckVs] using h.2))
theorem ckAs_ok : ∀ (es : Exs) (sc : Scope) (xs : List Expr), noStars xs = true → ckAs C.ci sc es xs = true → OkA C sc es xs
  | .nil, sc, [], _, h => ok_anil
  | .nil, sc, _ :: _, _, h => nomatch h
  | .cons e r, sc, [], _, h => by cases e <;> cases h
  | .cons e r, sc, x :: xs, hs, h => by
    have hs : (noStar x && noStars xs) = true := hs
    rw [Bool.and_eq_true] at hs
    by_cases c : isIo e = true
    · cases e <;> first | (cases c; done) | skip
      simp only [ckAs, Bool.and_eq_true] at h
      exact ok_aio h.1 hs.1 (ckAs_ok r sc xs hs.2 h.2)
    · have c : isIo e = false := by simpa using c
      have h' : ck C.ci sc false e x = true ∧ ckAs C.ci sc r xs = true := by
        cases e <;> first | (cases c; done) | skip
        all_goals (simp only [ckAs, Bool.and_eq_true] at h; exact h)
      exact ok_aval c (ck_ok e sc false x h'.1) hs.1 (ckAs_ok r sc xs hs.2 h'.2)
theorem ckT_ok : ∀ (t : Ts) (sc : Scope) (e : Expr), ckT C.ci sc t e = true → OkT C sc t e
  | .val a, sc, e, h => ok_tval (fun x => ck_ok a sc false x) h
  | .tru a, sc, e, h => ok_ttru (fun x => ck_ok a sc true x) h
  | .nt t, sc, e, h => ok_tnt (fun x => ckT_ok t sc x) h
  | .and ts, sc, e, h => ok_tand (fun xs => ckTA_ok ts sc xs) h
  | .or ts, sc, e, h => ok_tor (fun xs => ckTO_ok ts sc xs) h
theorem ckTA_ok : ∀ (ts : Tss) (sc : Scope) (xs : List Expr), ckTs C.ci sc ts xs = true → OkTA C sc ts xs
  | .nil, sc, xs, h => by cases xs <;> cases h
  | .cons t r, sc, xs, h => by
    cases r with
    | nil =>
      match xs, h with
      | [x], h => exact ok_ta1 (ckT_ok t sc x (by simpa only [ckTs] using h))
    | cons u r =>
      match xs, h with
      | x :: y :: xs, h =>
        simp only [ckTs, Bool.and_eq_true] at h
        exact ok_ta2 (ckT_ok t sc x h.1) (ckTA_ok (.cons u r) sc (y :: xs) (by simpa only [ckTs] using h.2))
theorem ckTO_ok : ∀ (ts : Tss) (sc : Scope) (xs : List Expr), ckTs C.ci sc ts xs = true → OkTO C sc ts xs
  | .nil, sc, xs, h => by cases xs <;> cases h
  | .cons t r, sc, xs, h => by
    cases r with
    | nil =>
      match xs, h with
      | [x], h => exact ok_to1 (ckT_ok t sc x (by simpa only [ckTs] using h))
    | cons u r =>
      match xs, h with
      | x :: y :: xs, h =>
        simp only [ckTs, Bool.and_eq_true] at h
        exact ok_to2 (ckT_ok t sc x h.1) (ckTO_ok (.cons u r) sc (y :: xs) (by simpa only [ckTs] using h.2))
theorem ckTss_ok : ∀ (ts : Tss) (sc : Scope) (xs : List Expr), ckTss C.ci sc ts xs = true → OkIf C sc ts xs
  | .nil, sc, [], h => ok_if0
  | .nil, sc, _ :: _, h => nomatch h
  | .cons t r, sc, xs, h => by
    cases r with
    | nil =>
      match xs, h with
      | [x], h => exact ok_if1 (ckT_ok t sc x (by simpa only [ckTss] using h))
    | cons u r => cases xs <;> cases h
theorem ckW_ok : ∀ (w : Wk) (sc : Scope) (tg e : Expr), ckW C.ci sc w tg e = true → OkW C sc w tg e
  | .rng1 a, sc, tg, e, h => ok_w1 FF.bl (fun e => ck_ok a sc true e) h
  | .rng2 a b, sc, tg, e, h => ok_w2 FF.bl (fun e => ck_ok a sc true e) (fun e => ck_ok b sc true e) h
  | .rng3 a b c, sc, tg, e, h => ok_w3 FF.bl (fun e => ck_ok a sc true e) (fun e => ck_ok b sc true e) (fun e => ck_ok c sc true e) h
  | .it a, sc, tg, e, h => ok_wit (fun e => ck_ok a sc true e) h
  | .zip a b, sc, tg, e, h => ok_wzip FF.bl (fun e => ck_ok a sc true e) (fun e => ck_ok b sc true e) h
  | .enum a, sc, tg, e, h => ok_wenum FF.bl (fun e => ck_ok a sc true e) h
end
end
end
end DL
set_option maxHeartbeats 1000000
/-! DLI: the checker for statements, and that it is right. -/
namespace DL
open PySem PySem.Spec PyProof.Rows L2

def noTup : Expr → Bool
  | .Tuple _ _ _ => false
  | _ => true
def noSD : Expr → Bool
  | .SetComp _ _ _ _ => false
  | _ => true
/-- name = [..] on one line, by the library's way -/
def swB (sc : Scope) (v : Expr) (x : Str) (px : Pos) : Bool := match v with
  | .ListComp _ _ scope pos => sc.names.lookup x == some .local && px.line == pos.line && !(scope.names.any fun (n, k) => n == x && (k == .local || k == .cell))
  | .DictComp _ _ _ scope pos => sc.names.lookup x == some .local && px.line == pos.line && !(scope.names.any fun (n, k) => n == x && (k == .local || k == .cell))
  | _ => false
theorem swB_ok {sc : Scope} {v : Expr} {x : Str} {px : Pos} {line : Nat} {env : PySem.Env} (hs : env.scope = sc) (hk : sc.kind = .function) (h : noSD v = true) : swapsWith v (some (.Name x px)) line env = pure (swB sc v x px) := by
  have hb : env.blockKind = .function := by unfold PySem.Env.blockKind; rw [hs, hk]; rfl
  cases v <;> first | rfl | (cases h; done) | skip
  all_goals
    subst hs
    show pure (env.blockKind == .function && env.kindOf x == some .local && px.line == _ && _) = _
    rw [hb]
    rfl
theorem sw_tup {es : List Expr} {k : Nat} {pos : Pos} {v : Expr} {env : PySem.Env} (h : noTup v = true) : swappedStores [.Tuple es k pos] v env = pure none := by
  cases v <;> first | rfl | (cases h; done)
theorem sw_sub {o i : Expr} {pos : Pos} {v : Expr} {env : PySem.Env} : swappedStores [.Subscript o i pos] v env = pure none := by
  cases v <;> rfl
theorem swS_tup {es : List Expr} {k : Nat} {pos : Pos} {v : Expr} {line : Nat} {env : PySem.Env} : swapsWithSole [.Tuple es k pos] v line env = pure false := by
  cases v <;> rfl
theorem swS_sub {o i : Expr} {pos : Pos} {v : Expr} {line : Nat} {env : PySem.Env} : swapsWithSole [.Subscript o i pos] v line env = pure false := by
  cases v <;> rfl
theorem asg_sub {o i : Expr} {pos : Pos} {env : PySem.Env} (h : noSlice i = true) : ∀ v, assign (.Subscript o i pos) env v = (do
      let ov ← holding [v] (eval o env)
      let iv ← holding [v, ov] (eval i env)
      standAt pos
      holding [v, ov, iv] (setItem ov iv v)
      release [v, ov, iv] []) := by
  intro v
  cases i <;> first | rfl | (cases h; done)
/-- a, b = x, y -/
def swapOk (sc : Scope) (x y : Str) (px py : Pos) (a b : Expr) : Bool :=
  sc.names.lookup x == some .local && sc.names.lookup y == some .local && py.line == px.line && !(x == y) && noStar a && noStar b && !([a, b].all (foldedForSure 8)) && !([a, b].all (constantsAlone 8))
theorem sw_par' {x y : Str} {px py pt pt2 : Pos} {kt k2 : Nat} {a b : Expr} {env : PySem.Env} (hb : env.blockKind = .function) (k1 : (env.kindOf x == some .local) = true) (k2' : (env.kindOf y == some .local) = true) (h3 : (py.line == px.line) = true) (h4 : (x == y) = false) (h5 : noStar a = true) (h6 : noStar b = true)
   (h7 : ([a, b].all (foldedForSure 8)) = false) (h8 : ([a, b].all (constantsAlone 8)) = false) : swappedStores [.Tuple [.Name x px, .Name y py] kt pt] (.Tuple [a, b] k2 pt2) env = pure (some [x, y]) := by
  have e1 : ([Expr.Name x px, Expr.Name y py].filterMap fun | .Name id pos => if env.kindOf id == some .local && pos.line == px.line then some id else none | _ => none) = [x, y] := by
    have f1 : (if (env.kindOf x == some .local && px.line == px.line) = true then some x else none) = some x := by rw [k1, beq_self_eq_true]; rfl
    have f2 : (if (env.kindOf y == some .local && py.line == px.line) = true then some y else none) = some y := by rw [k2', h3]; rfl
    exact (List.filterMap_cons_some (a := Expr.Name x px) (b := x) (by exact f1)).trans (congrArg _ (List.filterMap_cons_some (a := Expr.Name y py) (b := y) (by exact f2)))
  have e2 : ([x, y].eraseDups.length != [x, y].length) = false := by
    have : (y == x) = false := by
      rw [beq_eq_false_iff_ne] at h4 ⊢
      exact fun e => h4 e.symm
    simp [List.eraseDups_cons, this]
  have hst : ([a, b].any fun | .Starred .. => true | _ => false) = false := by
    cases a <;> first | (cases h5; done) | skip
    all_goals (cases b <;> first | rfl | (cases h6; done))
  unfold swappedStores
  show (if (!(true || _) || false || env.blockKind != .function) = true then pure none else _) = _
  rw [hb]
  show (if ([a, b].any fun | .Starred .. => true | _ => false) = true then pure none else _) = _
  rw [hst]
  show (let names := ([Expr.Name x px, Expr.Name y py].filterMap fun | .Name id pos => if env.kindOf id == some .local && pos.line == px.line then some id else none | _ => none)
    if (names.length != 2 || names.eraseDups.length != names.length) = true then pure none else _) = _
  rw [e1]
  show (if (([x, y].length != 2) || ([x, y].eraseDups.length != [x, y].length)) = true then pure none else _) = _
  rw [e2]
  show (if [a, b].all (foldedForSure 8) = true then pure none else _) = _
  rw [h7]
  show (if [a, b].all (constantsAlone 8) = true then _ else _) = _
  rw [h8, if_neg Bool.false_ne_true]
  exact congrArg (fun l => pure (some l)) e1
/-- a, b = x, y, where one of the names is no plain local: by a tuple -/
def noSwap (sc : Scope) : Expr → Expr → Bool
  | .Tuple [.Name x _, .Name y _] _ _, .Tuple [a, b] _ _ => noStar a && noStar b && (!(sc.names.lookup x == some .local) || !(sc.names.lookup y == some .local))
  | _, _ => false
theorem sw_cell {x y : Str} {px py pt pt2 : Pos} {kt k2 : Nat} {a b : Expr} {env : PySem.Env} (hb : env.blockKind = .function) (hk : (env.kindOf x == some .local) = false ∨ (env.kindOf y == some .local) = false) (h5 : noStar a = true) (h6 : noStar b = true) :
    swappedStores [.Tuple [.Name x px, .Name y py] kt pt] (.Tuple [a, b] k2 pt2) env = pure none := by
  have hst : ([a, b].any fun | .Starred .. => true | _ => false) = false := by
    cases a <;> first | (cases h5; done) | skip
    all_goals (cases b <;> first | rfl | (cases h6; done))
  unfold swappedStores
  show (if (!(true || _) || false || env.blockKind != .function) = true then pure none else _) = _
  rw [hb]
  show (if ([a, b].any fun | .Starred .. => true | _ => false) = true then pure none else _) = _
  rw [hst]
  show (let names := ([Expr.Name x px, Expr.Name y py].filterMap fun | .Name id pos => if env.kindOf id == some .local && pos.line == px.line then some id else none | _ => none)
    if (names.length != 2 || names.eraseDups.length != names.length) = true then pure none else _) = _
  have e1 : (([Expr.Name x px, Expr.Name y py].filterMap fun | .Name id pos => if env.kindOf id == some .local && pos.line == px.line then some id else none | _ => none).length != 2) = true := by
    simp only [List.filterMap_cons, List.filterMap_nil]
    rcases hk with hk | hk
    · rw [hk]
      simp only [Bool.false_and, Bool.false_eq_true, if_false]
      split <;> rfl
    · rw [hk]
      simp only [Bool.false_and, Bool.false_eq_true, if_false]
      split <;> rfl
  show (if (([Expr.Name x px, Expr.Name y py].filterMap fun | .Name id pos => if env.kindOf id == some .local && pos.line == px.line then some id else none | _ => none).length != 2 || _) = true then pure none else _) = _
  rw [e1]
  rfl
theorem sw_no {sc : Scope} {tg v : Expr} {env : PySem.Env} (hs : env.scope = sc) (hk : sc.kind = .function) (h : noSwap sc tg v = true) : swappedStores [tg] v env = pure none := by
  have hb : env.blockKind = .function := by unfold PySem.Env.blockKind; rw [hs, hk]; rfl
  unfold noSwap at h
  split at h
  · simp only [Bool.and_eq_true, Bool.or_eq_true, Bool.not_eq_true'] at h
    obtain ⟨⟨h1, h2⟩, h3⟩ := h
    exact sw_cell hb (by unfold PySem.Env.kindOf; rw [hs]; exact h3) h1 h2
  · cases h
theorem sw_par {sc : Scope} {x y : Str} {px py pt pt2 : Pos} {kt k2 : Nat} {a b : Expr} {env : PySem.Env} (hs : env.scope = sc) (hk : sc.kind = .function) (h : swapOk sc x y px py a b = true) : swappedStores [.Tuple [.Name x px, .Name y py] kt pt] (.Tuple [a, b] k2 pt2) env = pure (some [x, y]) := by
  have hb : env.blockKind = .function := by unfold PySem.Env.blockKind; rw [hs, hk]; rfl
  unfold swapOk at h
  simp only [Bool.and_eq_true, Bool.not_eq_true'] at h
  obtain ⟨⟨⟨⟨⟨⟨⟨h1, h2⟩, h3⟩, h4⟩, h5⟩, h6⟩, h7⟩, h8⟩ := h
  exact sw_par' hb (by unfold PySem.Env.kindOf; rw [hs]; exact h1) (by unfold PySem.Env.kindOf; rw [hs]; exact h2) h3 h4 h5 h6 h7 h8

/-! ### slots touched -/
mutual
def tS : Sm → List Nat
  | .asg g e => match g with
    | .one i => tE e ++ [i]
    | .tup _ => tE e
  | .par i j a b => (tE a ++ tE b) ++ [i, j]
  | .sets _ x q k e => (tE e ++ (tEs q ++ tE k)) ++ [x]
  | .augs x _ q k e => (tEs q ++ (tE k ++ tE e)) ++ [x]
  | .aug x _ e => tE e ++ [x]
  | .app x q e => (tEs q ++ tE e) ++ [x]
  | .drop e => tE e
  | .ite c a b => tT c ++ (tB a ++ tB b)
  | .for _ w b => tW w ++ tB b
  | .whl c b => tT c ++ tB b
  | .ret e => tE e
  | .alt _ _ s => tS s
  | _ => []
def tB : Sms → List Nat
  | .nil => []
  | .cons s r => match s with
    | .kill i => i :: tB r
    | s => tS s ++ tB r
end
def isKill : Sm → Bool
  | .kill _ => true
  | _ => false

/-! ### the checker -/
def dis (is T : List Nat) : Bool := is.all fun i => decide (i ∉ T)
def ckOne (I : CI) (sc : Scope) (i : Nat) (e : Ex) : Expr → Expr → Bool
  | .Name x px, v => decide (I.N[i]? = some x) && loc sc x && decide (i ∉ I.io) && ck I sc false e v && decide (I.g i ≤ lvE I e) && noSD v
  | _, _ => false
def ckPar (I : CI) (sc : Scope) (i j : Nat) (a b : Ex) : Expr → Expr → Bool
  | .Tuple [.Name x px, .Name y py] _ _, .Tuple [v, w] _ _ => decide (I.N[i]? = some x) && decide (I.N[j]? = some y) && decide (i ≠ j) && decide (i ∉ I.io) && decide (j ∉ I.io) && swapOk sc x y px py v w && ck I sc false a v && ck I sc false b w && decide (I.g i ≤ lvE I a) && decide (I.g j ≤ lvE I b)
  | _, _ => false
def ckSets (I : CI) (sc : Scope) (dd : Bool) (x : Nat) (q : Exs) (k e : Ex) : Expr → Expr → Bool
  | .Subscript o i _, v => ck I sc false e v && ckQ I sc x q o && ck I sc true k i && noSlice i && decide (x ∉ tE k) && decide (lenEs q + 1 ≤ I.g x) && decide (I.g x - lenEs q - 1 ≤ lvE I e) && (!dd || decide (I.g x = lenEs q + 1))
  | _, _ => false
def ckAugs (I : CI) (sc : Scope) (x : Nat) (o : Op2) (q : Exs) (k e : Ex) (op : Operator) : Expr → Expr → Bool
  | .Subscript b i _, v => decide (opAst op = some o) && ckQ I sc x q b && ck I sc true k i && noSlice i && ck I sc true e v && decide (I.g x = lenEs q + 1) && decide (x ∉ tE k) && decide (x ∉ tE e) && free (brw I k) (tE e)
  | _, _ => false
def ckApp (I : CI) (sc : Scope) (x : Nat) (q : Exs) (e : Ex) : Expr → Bool
  | .Call (.Attribute o m apos) [v] [] cpos => decide (m = "append") && noCall o && (apos.endLine == cpos.line) && noStar v && ckQ I sc x q o && ck I sc false e v && decide (lenEs q + 1 ≤ I.g x) && decide (I.g x - lenEs q - 1 ≤ lvE I e) && decide (x ∉ tE e)
  | _ => false
mutual
def ckS (I : CI) (sc : Scope) (rt : Nat) : Sm → Stmt → Bool
  | .asg g e, st => match st with
    | .Assign [tg] v _ => match g with
      | .one i => ckOne I sc i e tg v
      | .tup is => ckG I sc sc (.tup is) tg && dis is I.io && (noTup v || noSwap sc tg v) && ck I sc false e v
    | _ => false
  | .par i j a b, st => match st with
    | .Assign [tg] v _ => ckPar I sc i j a b tg v
    | _ => false
  | .sets dd x q k e, st => match st with
    | .Assign [tg] v _ => ckSets I sc dd x q k e tg v
    | _ => false
  | .augs x o q k e, st => match st with
    | .AugAssign tg op v _ => ckAugs I sc x o q k e op tg v
    | _ => false
  | .aug x o e, st => match st with
    | .AugAssign (.Name y _) op v _ => decide (I.N[x]? = some y) && loc sc y && decide (opAst op = some o) && ck I sc true e v && decide (x ∉ tE e) && decide (x ∉ I.io)
    | _ => false
  | .app x q e, st => match st with
    | .Expr v _ => ckApp I sc x q e v
    | _ => false
  | .drop e, st => match st with
    | .Expr v _ => ck I sc false e v && noComp v
    | _ => false
  | .ite c a b, st => match st with
    | .If t x y _ => ckT I sc c t && ckB I sc rt a x && ckB I sc rt b y
    | _ => false
  | .for g w b, st => match st with
    | .For tg it body [] _ => ckW I sc w tg it && ckG I sc sc g tg && ckB I sc rt b body && noSet it && dis (tgs g) I.io && free (brwW I w) (tB b)
    | _ => false
  | .whl c b, st => match st with
    | .While t body [] _ => ckT I sc c t && ckB I sc rt b body
    | _ => false
  | .ret e, st => match st with
    | .Return (some v) _ => ck I sc false e v && decide (rt ≤ lvE I e)
    | _ => false
  | .retN, st => match st with
    | .Return none _ => true
    | _ => false
  | .brk, st => match st with
    | .Break _ => true
    | _ => false
  | .cnt, st => match st with
    | .Continue _ => true
    | _ => false
  | .pass, st => match st with
    | .Pass _ => true
    | .Expr (.Constant (.str _) _ _) _ => true
    | _ => false
  | .kill _, _ => false
  | .never, _ => true
  | .alt i m s, st => ckS ⟨I.N, I.G.set i m, I.io, I.tbl, I.bl, I.gl⟩ sc rt s st
def ckB (I : CI) (sc : Scope) (rt : Nat) : Sms → List Stmt → Bool
  | .nil, [] => true
  | .nil, _ :: _ => false
  | .cons s r, sts => match s with
    | .kill _ => ckB I sc rt r sts
    | s => match sts with
      | [] => false
      | st :: sts => ckS I sc rt s st && ckB I sc rt r sts
end

/-! ### it is right -/
section
variable {C : CC} {E : XK} {X : Cx} {T T' T1 T2 : List Nat} {F H F1 H1 : Hp} {S S1 : Nat → AS} {sc : Scope} {n : Nat}
theorem dis_ok {is T : List Nat} (h : dis is T = true) : ∀ i ∈ is, i ∉ T := fun i hi => by
  unfold dis at h
  exact of_decide_eq_true (List.all_eq_true.mp h i hi)
theorem SemS.wk {t : TS} {ev : Env → R Fl} (h : SemS C E n t ev T) (hT : ∀ i ∈ T, i ∈ T') : SemS C E n t ev T' := fun F H σ env S ri D post =>
  h F H σ env S ri D (post.wk hT fun f hf => hf.weak hT)
/-- the place of a statement -/
structure CtxS (C : CC) (sc : Scope) (E : XK) (X : Cx) : Prop extends CtxOk C sc E X where
  fnc : ∀ x, sc.names.lookup x = some .cell → X.fn x = true
def OkS (C : CC) (sc : Scope) (n : Nat) (s : Sm) (st : Stmt) : Prop := ∃ t : XK → TS, (∀ E X, CtxS C sc E X → PS X st (t E)) ∧ ∀ E, SemS C E n (t E) (evS C.cal C.fuel s) (tS s)
def OkB (C : CC) (sc : Scope) (n : Nat) (b : Sms) (sts : List Stmt) : Prop := ∃ t : XK → TS, (∀ E X, CtxS C sc E X → PSs X sts (t E)) ∧ ∀ E, SemS C E n (t E) (evB C.cal C.fuel b) (tB b)
variable (FF : Facts C)
include FF
theorem ok_asg1 {i : Nat} {e : Ex} {st : Stmt} (h : ckS C.ci sc n (.asg (.one i) e) st = true) : OkS C sc n (.asg (.one i) e) st := by
  simp only [ckS] at h
  split at h <;> first | contradiction | skip
  rename_i tg v pos
  cases tg <;> first | (cases h; done) | skip
  rename_i x px
  simp only [ckOne, Bool.and_eq_true, decide_eq_true_eq] at h
  obtain ⟨⟨⟨⟨⟨h1, h2⟩, h3⟩, h4⟩, h5⟩, h6⟩ := h
  obtain ⟨t, pe, _, sl, se⟩ := ck_ok FF e sc false v h4
  refine ⟨fun E => tAsg (t E) (gName i), fun E X c => ?_, fun E => sem_asg ((se E).lw h5) h3⟩
  have hN : X.N[i]? = some x := by rw [c.N]; exact h1
  have hnd : X.N.Nodup := by rw [c.N]; exact c.nd
  have hl := loc_ok c.toCtxOk h2
  have sw := swB_ok (v := v) (x := x) (px := px) (line := pos.line) c.scp c.kind h6
  have hfn : X.fn x = true ∨ X.env.scope.names.lookup x = some .local := by
    rcases hl with q | q
    · exact .inr q
    · rw [c.scp] at q; exact .inl (c.fnc x q)
  cases hb : swB sc v x px with
  | false =>
    rw [hb] at sw
    exact ps_set hnd hN hl (pe E X c.toCtxOk) sw hfn
  | true =>
    rw [hb] at sw
    rcases sl E X c.toCtxOk with q | q
    · rw [swaps_ok q] at sw
      cases v <;> first | (cases hb; done) | (cases q; done)
    · refine q i x px pos hN ?_ sw
      unfold swB at hb
      cases v <;> first | (cases hb; done) | skip
      all_goals
        simp only [Bool.and_eq_true, beq_iff_eq] at hb
        rw [c.scp]; exact hb.1.1
theorem ok_asgT {is : List Nat} {e : Ex} {st : Stmt} (h : ckS C.ci sc n (.asg (.tup is) e) st = true) : OkS C sc n (.asg (.tup is) e) st := by
  simp only [ckS] at h
  split at h <;> first | contradiction | skip
  rename_i tg v pos
  simp only [Bool.and_eq_true] at h
  obtain ⟨⟨⟨h1, h2⟩, h3⟩, h4⟩ := h
  obtain ⟨t, pe, _, _, se⟩ := ck_ok FF e sc false v h4
  obtain ⟨sg, g0⟩ := g_sem h1
  refine ⟨fun E => tAsg (t E) (gOf C.K (.tup is)), fun E X c => ?_, fun E => sem_asgG ((se E).lw (Nat.zero_le _)) sg (dis_ok h2) fun d env c x => bindT_exc d env c x⟩
  cases tg <;> first | (cases h1; done) | skip
  exact ps_asg (pe E X c.toCtxOk) (g_ok c.toCtxOk c.fnc h1) swS_tup ((Bool.or_eq_true _ _ ▸ h3).elim (fun q => sw_tup q) fun q => sw_no c.scp c.kind q) rfl
theorem ok_par {i j : Nat} {a b : Ex} {st : Stmt} (h : ckS C.ci sc n (.par i j a b) st = true) : OkS C sc n (.par i j a b) st := by
  simp only [ckS] at h
  split at h <;> first | contradiction | skip
  rename_i tg v pos
  unfold ckPar at h
  split at h <;> first | contradiction | skip
  rename_i x px y py kt pt v w k2 pt2
  simp only [Bool.and_eq_true, decide_eq_true_eq] at h
  obtain ⟨⟨⟨⟨⟨⟨⟨⟨⟨h1, h2⟩, h3⟩, h4⟩, h5⟩, h6⟩, h7⟩, h8⟩, h9⟩, h10⟩ := h
  obtain ⟨t, pe, _, _, se⟩ := ck_ok FF a sc false v h7
  obtain ⟨u, pu, _, _, su⟩ := ck_ok FF b sc false w h8
  have hsw := h6
  unfold swapOk at h6
  simp only [Bool.and_eq_true, beq_iff_eq] at h6
  obtain ⟨⟨⟨⟨⟨⟨⟨l1, l2⟩, _⟩, _⟩, s1⟩, s2⟩, _⟩, _⟩ := h6
  refine ⟨fun E => tPar i j (tCons (t E) (tCons (u E) tNil)), fun E X c => ?_, fun E => sem_par ((se E).lw h9) ((su E).lw h10) h4 h5 h3⟩
  exact ps_par c.calm (by rw [c.N]; exact c.nd) (by rw [c.N]; exact h1) (by rw [c.N]; exact h2) h3 (by rw [c.scp]; exact l1) (by rw [c.scp]; exact l2) (pa_cons (pe E X c.toCtxOk) (pa_cons (pu E X c.toCtxOk) pa_nil (star_ok s2)) (star_ok s1)) (sw_par c.scp c.kind hsw) swS_tup
theorem okq (x : Nat) (q : Exs) {e : Expr} (h : ckQ C.ci sc x q e = true) : OkQ C sc x q e := okq_any (fun k hk e h => ckOne_ok FF q sc k hk e h) h
theorem ok_sets {dd : Bool} {x : Nat} {q : Exs} {k e : Ex} {st : Stmt} (h : ckS C.ci sc n (.sets dd x q k e) st = true) : OkS C sc n (.sets dd x q k e) st := by
  simp only [ckS] at h
  split at h <;> first | contradiction | skip
  rename_i tg v pos
  cases tg <;> first | (cases h; done) | skip
  rename_i o i spos
  simp only [ckSets, Bool.and_eq_true, Bool.or_eq_true, Bool.not_eq_true', decide_eq_true_eq] at h
  obtain ⟨⟨⟨⟨⟨⟨⟨h1, h2⟩, h3⟩, h4⟩, h5⟩, h6⟩, h7⟩, h8⟩ := h
  obtain ⟨t, pe, _, _, se⟩ := ck_ok FF e sc false v h1
  obtain ⟨u, pu, hm, su⟩ := okq FF x q h2
  obtain ⟨w, pw, sw⟩ := ck_ok FF k sc true i h3
  have h6' : lenEs q + 1 ≤ C.g x := h6
  obtain ⟨m, hg⟩ : ∃ m, C.g x = lenEs q + (m + 1) := ⟨C.g x - lenEs q - 1, by omega⟩
  have h7' : C.g x - lenEs q - 1 ≤ lvE C.ci e := h7
  have h8' : dd = false ∨ C.g x = lenEs q + 1 := h8
  refine ⟨fun E => tAsg (t E) (gSub (u E) (w E) rSet), fun E X c => ?_, fun E => ?_⟩
  · exact ps_asg (pe E X c.toCtxOk) (pg_sub (pu E X c.toCtxOk) (pw E X c.toCtxOk) (pset_any c.toCtxOk.u1) (asg_sub h4)) swS_sub sw_sub rfl
  · exact sem_sets (q := m) hm ((se E).lw (by omega)) (su (by omega) E) (sw E) hg h5 fun q => by
      rcases h8' with h8 | h8
      · rw [q] at h8; cases h8
      · omega
theorem ok_augs {o : Op2} {x : Nat} {q : Exs} {k e : Ex} {st : Stmt} (h : ckS C.ci sc n (.augs x o q k e) st = true) : OkS C sc n (.augs x o q k e) st := by
  simp only [ckS] at h
  split at h <;> first | contradiction | skip
  rename_i tg op v pos
  cases tg <;> first | (cases h; done) | skip
  rename_i b i spos
  simp only [ckAugs, Bool.and_eq_true, decide_eq_true_eq] at h
  obtain ⟨⟨⟨⟨⟨⟨⟨⟨h1, h2⟩, h3⟩, h4⟩, h5⟩, h6⟩, h7⟩, h8⟩, h9⟩ := h
  obtain ⟨t, pe, se⟩ := ck_ok FF e sc true v h5
  obtain ⟨u, pu, hm, su⟩ := okq FF x q h2
  obtain ⟨w, pw, sw⟩ := ck_ok FF k sc true i h3
  have h6' : C.g x = lenEs q + 1 := h6
  refine ⟨fun E => tAugS (u E) (w E) (t E) (rPth C.K) (tipA o) rSet, fun E X c => ?_, fun E => ?_⟩
  · have := ps_augS (pos := pos) (tpos := spos) (pu E X c.toCtxOk) (pw E X c.toCtxOk) (pget_any c.toCtxOk.u1) (pe E X c.toCtxOk) (pip_ok h1) (pset_any c.toCtxOk.u1) (aug_ok h4)
    rw [c.K] at this
    exact this
  · exact sem_augs hm (su (by omega) E) (sw E) (se E) h6' h7 h8 (free_ok h9)
theorem ok_aug {o : Op2} {x : Nat} {e : Ex} {st : Stmt} (h : ckS C.ci sc n (.aug x o e) st = true) : OkS C sc n (.aug x o e) st := by
  simp only [ckS] at h
  split at h <;> first | contradiction | skip
  rename_i y yp op v pos
  simp only [Bool.and_eq_true, decide_eq_true_eq] at h
  obtain ⟨⟨⟨⟨⟨h1, h2⟩, h3⟩, h4⟩, h5⟩, h6⟩ := h
  obtain ⟨t, pe, se⟩ := ck_ok FF e sc true v h4
  refine ⟨fun E => tAug x (t E) (tipA o), fun E X c => ?_, fun E => sem_aug (se E) h5 h6⟩
  have hl := loc_ok c.toCtxOk h2
  have hfn : X.fn y = true ∨ X.env.scope.names.lookup y = some .local := by
    rcases hl with q | q
    · exact .inr q
    · rw [c.scp] at q; exact .inl (c.fnc y q)
  exact ps_aug (by rw [c.N]; exact c.nd) (by rw [c.N]; exact h1) hl (pe E X c.toCtxOk) (pip_ok h3) hfn
theorem ok_app {x : Nat} {q : Exs} {e : Ex} {st : Stmt} (h : ckS C.ci sc n (.app x q e) st = true) : OkS C sc n (.app x q e) st := by
  simp only [ckS] at h
  split at h <;> first | contradiction | skip
  rename_i a pos
  unfold ckApp at h
  split at h <;> first | contradiction | skip
  rename_i o m apos v cpos
  simp only [Bool.and_eq_true, decide_eq_true_eq] at h
  obtain ⟨⟨⟨⟨⟨⟨⟨⟨rfl, h2⟩, h3⟩, h4⟩, h5⟩, h6⟩, h7⟩, h8⟩, h9⟩ := h
  obtain ⟨t, pe, _, _, se⟩ := ck_ok FF e sc false v h6
  obtain ⟨u, pu, hm, su⟩ := okq FF x q h5
  have h7' : lenEs q + 1 ≤ C.g x := h7
  have h8' : C.g x - lenEs q - 1 ≤ lvE C.ci e := h8
  obtain ⟨m, hg⟩ : ∃ m, C.g x = lenEs q + (m + 1) := ⟨C.g x - lenEs q - 1, by omega⟩
  refine ⟨fun E => tDrop (tBM C.K "list" rAppend (u E) (tCons (t E) tNil)), fun E X c => ?_, fun E => sem_app (q := m) hm (su (by omega) E) ((se E).lw (by omega)) hg h9⟩
  have := pe_bm (X := X) PySem.F.plainAttrs_list PySem.F.slot_list_append PySem.F.type_list_append mt_append (pu E X c.toCtxOk) (pa_cons (pe E X c.toCtxOk) pa_nil (star_ok h4)) (base_ok h2) (one_few h4) h3 (star_ok h4) rfl
  rw [c.K] at this
  exact ps_expr this (swaps_ok rfl)
theorem ok_drop {e : Ex} {st : Stmt} (h : ckS C.ci sc n (.drop e) st = true) : OkS C sc n (.drop e) st := by
  simp only [ckS] at h
  split at h <;> first | contradiction | skip
  rename_i v pos
  simp only [Bool.and_eq_true] at h
  obtain ⟨t, pe, _, _, se⟩ := ck_ok FF e sc false v h.1
  exact ⟨fun E => tDrop (t E), fun E X c => ps_expr (pe E X c.toCtxOk) (swaps_ok h.2), fun E => sem_drop (se E)⟩
theorem ok_ret {e : Ex} {st : Stmt} (h : ckS C.ci sc n (.ret e) st = true) : OkS C sc n (.ret e) st := by
  simp only [ckS] at h
  split at h <;> first | contradiction | skip
  rename_i v pos
  simp only [Bool.and_eq_true, decide_eq_true_eq] at h
  obtain ⟨t, pe, _, _, se⟩ := ck_ok FF e sc false v h.1
  exact ⟨fun E => tRet (t E), fun E X c => ps_ret (pe E X c.toCtxOk), fun E => sem_ret ((se E).lw h.2)⟩
end
mutual
theorem ckS_ok {C : CC} (FF : Facts C) {sc : Scope} {n : Nat} : ∀ (s : Sm) (st : Stmt), ckS C.ci sc n s st = true → OkS C sc n s st
  | .asg (.one i) e, st, h => ok_asg1 FF h
  | .asg (.tup is) e, st, h => ok_asgT FF h
  | .par i j a b, st, h => ok_par FF h
  | .sets dd x q k e, st, h => ok_sets FF h
  | .augs x o q k e, st, h => ok_augs FF h
  | .aug x o e, st, h => ok_aug FF h
  | .app x q e, st, h => ok_app FF h
  | .drop e, st, h => ok_drop FF h
  | .ite c a b, st, h => by
    simp only [ckS] at h
    split at h <;> first | contradiction | skip
    rename_i t x y pos
    simp only [Bool.and_eq_true] at h
    obtain ⟨t, pt, st⟩ := ckT_ok FF c sc t h.1.1
    obtain ⟨u, pu, su⟩ := ckB_ok FF a x h.1.2
    obtain ⟨w, pw, sw⟩ := ckB_ok FF b y h.2
    exact ⟨fun E => tIfS (t E) (u E) (w E), fun E X c => ps_if (pt E X c.toCtxOk) (pu E X c) (pw E X c), fun E => sem_if (st E) (su E) (sw E)⟩
  | .for g w b, st, h => by
    simp only [ckS] at h
    split at h <;> first | contradiction | skip
    rename_i tg it body pos
    simp only [Bool.and_eq_true] at h
    obtain ⟨⟨⟨⟨⟨h1, h2⟩, h3⟩, h4⟩, h5⟩, h6⟩ := h
    obtain ⟨t, pt, st⟩ := ckW_ok FF w sc tg it h1
    obtain ⟨u, pu, su⟩ := ckB_ok FF b body h3
    obtain ⟨sg, g0⟩ := g_sem h2
    exact ⟨fun E => tFor (t E) (gOf C.K g) (u E), fun E X c => ps_for c.own c.calm (pt E X c.toCtxOk) (g_ok c.toCtxOk c.fnc h2) (pu E X c) (set_ok h4), fun E => sem_for (st E) sg (su E) (dis_ok h5) (fun d env c x => bindT_exc d env c x) (free_ok h6)⟩
  | .whl c b, st, h => by
    simp only [ckS] at h
    split at h <;> first | contradiction | skip
    rename_i t body pos
    simp only [Bool.and_eq_true] at h
    obtain ⟨t, pt, st⟩ := ckT_ok FF c sc t h.1
    obtain ⟨u, pu, su⟩ := ckB_ok FF b body h.2
    exact ⟨fun E => tWhile (t E) (u E), fun E X c => ps_while c.own (pt E X c.toCtxOk) (pu E X c), fun E => sem_whl (st E) (su E)⟩
  | .ret e, st, h => ok_ret FF h
  | .retN, st, h => by
    simp only [ckS] at h
    split at h <;> first | contradiction | skip
    exact ⟨fun _ => tRetN, fun E X c => ps_retN, fun E => sem_retN⟩
  | .brk, st, h => by
    simp only [ckS] at h
    split at h <;> first | contradiction | skip
    exact ⟨fun _ => tBreak, fun E X c => ps_break, fun E => sem_brk⟩
  | .cnt, st, h => by
    simp only [ckS] at h
    split at h <;> first | contradiction | skip
    exact ⟨fun _ => tCont, fun E X c => ps_continue, fun E => sem_cnt⟩
  | .pass, st, h => by
    simp only [ckS] at h
    split at h <;> first | contradiction | skip
    · exact ⟨fun _ => tNext, fun E X c => ps_pass, fun E => sem_pass⟩
    · exact ⟨fun _ => tNext, fun E X c => ps_doc, fun E => sem_pass⟩
  | .kill i, st, h => by simp only [ckS] at h; cases h
  | .alt i m s, st, h => by
    obtain ⟨t, pt, se⟩ := ckS_ok (C := C.re i m) ⟨FF.bl, FF.fn, FF.gl⟩ (sc := sc) (n := n) s st (by simp only [ckS] at h; exact h)
    refine ⟨t, fun E X c => pt E X ⟨⟨c.prog, c.w, c.K, c.mg, c.base, c.N, c.nd, c.scp, c.kind, c.calm, c.room, c.pass, c.own⟩, c.fnc⟩, fun E => ?_⟩
    have e2 : evS C.cal C.fuel (.alt i m s) = fun env => (evS C.cal C.fuel s (env.set i none)).bind fun f => .ok (clr i f) := funext fun env => by rw [evS]
    have e3 : tS (.alt i m s) = tS s := by rw [tS]
    rw [e2, e3]
    exact sem_alt (se E)
  | .never, st, h => ⟨fun _ => tNever, fun E X c => ps_never, fun E => sem_never⟩
theorem ckB_ok {C : CC} (FF : Facts C) {sc : Scope} {n : Nat} : ∀ (b : Sms) (sts : List Stmt), ckB C.ci sc n b sts = true → OkB C sc n b sts
  | .nil, [], h => ⟨fun _ => tNext, fun E X c => pss_nil, fun E => sem_snil⟩
  | .nil, _ :: _, h => by simp only [ckB] at h; cases h
  | .cons s r, sts, h => by
    by_cases k : isKill s = true
    · cases s <;> first | (cases k; done) | skip
      rename_i i
      have h : ckB C.ci sc n r sts = true := by simpa only [ckB] using h
      obtain ⟨u, pu, su⟩ := ckB_ok FF r sts h
      exact ⟨u, pu, fun E => sem_kill (su E)⟩
    · have k : isKill s = false := by simpa using k
      cases sts with
      | nil => cases s <;> first | (cases k; done) | (simp only [ckB] at h; cases h)
      | cons st sts =>
        have h' : ckS C.ci sc n s st = true ∧ ckB C.ci sc n r sts = true := by
          cases s <;> first | (cases k; done) | skip
          all_goals (simp only [ckB, Bool.and_eq_true] at h; exact h)
        obtain ⟨t, pt, st⟩ := ckS_ok FF s st h'.1
        obtain ⟨u, pu, su⟩ := ckB_ok FF r sts h'.2
        refine ⟨fun E => tSeq (t E) (u E), fun E X c => pss_cons (pt E X c) (pu E X c), fun E => ?_⟩
        have e1 : tB (.cons s r) = tS s ++ tB r := by cases s <;> first | rfl | (cases k; done)
        rw [e1]
        exact sem_scons (st E) (su E)
end
end DL
set_option maxHeartbeats 1000000
/-! DLJ: functions, by levels; the law. -/
namespace DL
open PySem PySem.Spec PyProof.Rows L2

def ckF0 (fd : Fd) (st : Stmt) : Bool :=
  decide ((defScope st).kind = .function) && !(defScope st).isCoroutine && !(defScope st).isGenerator && decide fd.N.Nodup && decide (fd.np ≤ fd.N.length) &&
    ((fd.N.take fd.np).all fun x => loc (defScope st) x) && ((defScope st).names.all fun y => !decide (y.2 = .free)) && decide (fd.io.length ≤ fd.np) &&
    ((List.range fd.np).all fun j => decide (fd.g j = 0) || decide (fd.io[j]? = some true))
def ckF (tbl : List Fd) (bl : List Str) (gl : List Nat) (fd : Fd) (st : Stmt) : Bool :=
  ckF0 fd st && ckB ⟨fd.N, fd.G, ioIx fd.io, tbl, bl, gl⟩ (defScope st) fd.rt fd.body (defBody st)
def CC.lev (C : CC) (k : Nat) : CC := { C with cal := callN C.tbl C.fuel k, k := k }
/-- in the function fd -/
def CC.inF (C : CC) (fd : Fd) : CC := { C with N := fd.N, G := fd.G, io := ioIx fd.io }

section
variable {C : CC} {E : XK} {X : Cx} {T T' J : List Nat} {F H F1 H1 : Hp} {S S0 S1 : Nat → AS} {sc : Scope} {n : Nat}
theorem Facts.inF (h : Facts C) (fd : Fd) : Facts (C.inF fd) := ⟨h.bl, h.fn, h.gl⟩
open Classical in
/-- sets only at the places J -/
noncomputable def only (J : List Nat) (S S0 : Nat → AS) : Nat → AS := fun j => if j ∈ J then S j else S0 j
theorem only_in {j : Nat} (h : j ∈ J) : only J S S0 j = S j := if_pos h
theorem only_out {j : Nat} (h : j ∉ J) : only J S S0 j = S0 j := if_neg h
/-- a body's step, seen from outside -/
theorem Stp.narrow (st : Stp T F H (only J S fun _ => noA) F1 H1 S1) : Stp J F H S F1 H1 (only J S1 S) := by
  have key : ∀ (j : Nat) (a : Addr), only J S (fun _ => noA) j a → j ∈ J ∧ S j a := fun j a h => by
    by_cases c : j ∈ J
    · rw [only_in c] at h; exact ⟨c, h⟩
    · rw [only_out c] at h; exact h.elim
  refine ⟨st.mono, st.there, fun a o e n => st.keep a o e fun i hi w => n i (key i a w).1 (key i a w).2, fun a o e f n => st.keepF a o e f fun i hi w => n i (key i a w).1 (key i a w).2, fun i a w => ?_, fun i hi => only_out hi⟩
  by_cases c : i ∈ J
  · rw [only_in c] at w
    rcases st.fp i a w with w | ⟨j, _, w⟩ | w
    · exact .inl (key i a w).2
    · exact .inr (.inl ⟨j, key j a w⟩)
    · exact .inr (.inr w)
  · rw [only_out c] at w; exact .inl w
theorem ioVals_get : ∀ {l : List Bool} {env : Env} {i : Nat} {d : D}, gt (ioVals l env) i = some d → l[i]? = some true ∧ gt env i = some d
  | [], env, i, d, h => by
    have : ioVals [] env = [] := by cases env <;> rfl
    rw [this] at h
    unfold gt at h; simp at h
  | b :: bs, [], i, d, h => by
    have : ioVals (b :: bs) [] = [] := rfl
    rw [this] at h
    unfold gt at h; simp at h
  | b :: bs, x :: env, 0, d, h => by
    have h : (if b = true then x else none) = some d := h
    cases b
    · cases h
    · exact ⟨rfl, h⟩
  | b :: bs, x :: env, i + 1, d, h => by
    have h : gt (ioVals bs env) i = some d := h
    obtain ⟨h1, h2⟩ := ioVals_get h
    exact ⟨h1, h2⟩
theorem ioVals_len : ∀ {l : List Bool} {env : Env}, (ioVals l env).length ≤ l.length
  | [], env => by cases env <;> exact Nat.le_refl _
  | _ :: _, [] => Nat.zero_le _
  | _ :: bs, _ :: env => Nat.succ_le_succ (ioVals_len (l := bs) (env := env))
theorem gt_map {ds : List D} {i : Nat} {d : D} (h : gt (ds.map some) i = some d) : ds[i]? = some d := by
  unfold gt at h
  rw [List.getElem?_map] at h
  cases e : ds[i]? with
  | none => rw [e] at h; simp at h
  | some d' => rw [e] at h; simpa using h
theorem gt_start {ds : List D} {m i : Nat} {d : D} (h : gt (ds.map some ++ List.replicate m none) i = some d) : ds[i]? = some d := by
  unfold gt at h
  by_cases c : i < ds.length
  · rw [List.getElem?_append_left (by simpa using c), List.getElem?_map] at h
    cases e : ds[i]? with
    | none => rw [e] at h; simp at h
    | some d' => rw [e] at h; simpa using h
  · rw [List.getElem?_append_right (by simpa using c), List.getElem?_replicate] at h
    split at h <;> simp at h
/-- a function keeps its promise one level further: by its body -/
theorem fn_gen {k f : Nat} (FF : Facts (C.lev k)) {fd : Fd} {st : Stmt} (hf : C.tbl[f]? = some fd) (Fn : Fun C.K fd.nm fd.nm st (C.adr f) (C.fda f)) (hck : ckF0 fd st = true)
    (hbody : ∀ E X, CtxS ((C.lev k).inF fd) (defScope st) E X → ∃ t, PSs X (defBody st) t ∧ ∀ F H σ (ds : List D) S, ds.length = fd.np → σ.length = fd.N.length → RI C.K fd.g F H σ (ds.map some ++ List.replicate (fd.N.length - ds.length) none) S → ∀ D : Ends,
      Post ((C.lev k).inF fd) E (tB fd.body) F H S (evB ((C.lev k).inF fd).cal ((C.lev k).inF fd).fuel fd.body (ds.map some ++ List.replicate (fd.N.length - ds.length) none)) (PostF ((C.lev k).inF fd) fd.rt (tB fd.body) F H S σ D) → t D σ H) :
    FnOk C.P C.w C.K C.mg C.base (L2.CX C.P C.w) (k + 1) (C.adr f) (C.fda f) (fd.N.take fd.np) (spF (C.lev (k + 1)) fd f) := by
  unfold ckF0 at hck
  simp only [Bool.and_eq_true, Bool.not_eq_true', decide_eq_true_eq, List.all_eq_true, Bool.or_eq_true, decide_eq_false_iff_not, List.mem_range] at hck
  obtain ⟨⟨⟨⟨⟨⟨⟨⟨h1, h2⟩, h3⟩, h4⟩, h5⟩, h6⟩, h7⟩, h8⟩, h9⟩ := hck
  have hpl : (fd.N.take fd.np).length = fd.np := by rw [List.length_take]; omega
  have FS : FnScope fd.N (fd.N.take fd.np) (defScope st) := ⟨h1, h2, h3, h4, by rw [hpl], fun x hx => by
    have := h6 x hx
    unfold loc at this
    simpa using this, fun y hy => h7 y hy⟩
  refine Fn.okX FS (fun vs H Q E h => by rw [hpl]; exact h.1) fun cdv A outer s H vs Q E hr h => ?_
  obtain ⟨hl, F, S, ds, hds, ri, post⟩ := h
  have tk : Takes (cxOf (L2.CX C.P C.w) C.P C.w C.K C.mg C.base fd.N fd.nm (defScope st) (C.adr f) cdv A outer s H E) (fun cls d _ H => E cls d H) := takes_of rfl rfl rfl rfl
  have ctx : CtxS ((C.lev k).inF fd) (defScope st) E (cxOf (L2.CX C.P C.w) C.P C.w C.K C.mg C.base fd.N fd.nm (defScope st) (C.adr f) cdv A outer s H E) :=
    { prog := rfl, w := rfl, K := rfl, mg := rfl, base := rfl, N := rfl, nd := h4, scp := rfl, kind := h1, calm := rfl, room := hr, pass := passes_call tk fun _ _ _ _ h => h, own := passes_of rfl, fnc := fun _ _ => rfl }
  obtain ⟨t, pt, se⟩ := hbody E _ ctx
  refine ⟨t, pt, ?_⟩
  -- the frame at the start
  have np5 : fd.np ≤ fd.N.length := h5
  have riB : RI C.K fd.g F H (start fd.N vs) (ds.map some ++ List.replicate (fd.N.length - ds.length) none) (only (ioIx fd.io) S fun _ => noA) := by
    have sub : ∀ j a, only (ioIx fd.io) S (fun _ => noA) j a → j ∈ ioIx fd.io ∧ S j a := fun j a h => by
      by_cases c : j ∈ ioIx fd.io
      · rw [only_in c] at h; exact ⟨c, h⟩
      · rw [only_out c] at h; exact h.elim
    refine ⟨ri.sub, fun i d g => ?_, fun i j a p q => ri.dj i j a (sub i a p).2 (sub j a q).2, fun i a p => ri.lv i a (sub i a p).2, ?_⟩
    · have g' := gt_start g
      obtain ⟨v, e, r⟩ := ri.cell i d (by unfold gt; rw [List.getElem?_map, g']; rfl)
      obtain ⟨hi, _⟩ := List.getElem?_eq_some_iff.mp g'
      refine ⟨v, ?_, ?_⟩
      · unfold L2.start
        rw [List.getElem?_append_left (by rw [List.length_map]; omega)]
        exact e
      · by_cases c : i ∈ ioIx fd.io
        · rw [only_in c]; exact r
        · rw [only_out c]
          rcases h9 i (by omega) with h9 | h9
          · rw [h9] at r ⊢; exact r
          · exact absurd (mem_ioIx.mpr h9) c
    · unfold L2.start
      rw [List.length_append, List.length_append, List.length_map, List.length_map, List.length_replicate, List.length_replicate]
      omega
  have slen : (start fd.N vs).length = fd.N.length := by
    unfold L2.start
    rw [List.length_append, List.length_map, List.length_replicate]
    omega
  refine se F H (start fd.N vs) ds _ hds slen riB _ ?_
  -- what the caller gets
  have ev : (C.lev (k + 1)).cal f ds = runF (callN C.tbl C.fuel k) C.fuel fd ds := by
    show callN C.tbl C.fuel (k + 1) f ds = _
    show (match C.tbl[f]? with | some fd => runF (callN C.tbl C.fuel k) C.fuel fd ds | none => .bad) = _
    rw [hf]
  rw [ev] at post
  unfold runF at post
  rw [if_pos hds] at post
  have ioStart : ∀ (i : Nat), i ∈ ioIx fd.io → ∃ v : V, (start fd.N vs)[i]? = some (some v) ∧ (vs.map some)[i]? = some (some v) := fun i hi => by
    obtain ⟨w, _⟩ := List.getElem?_eq_some_iff.mp (mem_ioIx.mp hi)
    have hi' : i < vs.length := by omega
    refine ⟨vs[i], ?_, ?_⟩
    · unfold L2.start
      rw [List.getElem?_append_left (by rw [List.length_map]; exact hi'), List.getElem?_map, List.getElem?_eq_getElem hi']; rfl
    · rw [List.getElem?_map, List.getElem?_eq_getElem hi']; rfl
  -- the frame at the end, for the caller
  have back : ∀ {e : Env} {F' H' S' σ'}, Stp (tB fd.body) F H (only (ioIx fd.io) S fun _ => noA) F' H' S' → RI C.K fd.g F' H' σ' e S' → (∀ i ∈ ioIx fd.io, σ'[i]? = (start fd.N vs)[i]?) →
      RI C.K fd.g F' H' (vs.map some) (ioVals fd.io e) (only (ioIx fd.io) S' S) := fun {e F' H' S' σ'} stp rie io => by
    have stn := stp.narrow
    refine ⟨rie.sub, fun i d g => ?_, fun i j a p q => ?_, fun i a p => ?_, ?_⟩
    · obtain ⟨g1, g2⟩ := ioVals_get g
      have hi := mem_ioIx.mpr g1
      obtain ⟨v, e1, r⟩ := rie.cell i d g2
      obtain ⟨v', s1, s2⟩ := ioStart i hi
      rw [io i hi, s1] at e1
      cases e1
      exact ⟨v, s2, by rw [only_in hi]; exact r⟩
    · have mix : ∀ (i j : Nat) (a : Addr), i ∈ ioIx fd.io → j ∉ ioIx fd.io → S' i a → S j a → False := fun i j a hi hj p q => by
        have p' : only (ioIx fd.io) S' S i a := by rw [only_in hi]; exact p
        rcases stn.fp i a p' with w | ⟨l, hl, w⟩ | w
        · cases ri.dj i j a w q; exact hj hi
        · cases ri.dj l j a w q; exact hj hl
        · obtain ⟨o, e⟩ := ri.lv j a q
          rw [w] at e; cases e
      by_cases c : i ∈ ioIx fd.io <;> by_cases c' : j ∈ ioIx fd.io
      · rw [only_in c] at p; rw [only_in c'] at q; exact rie.dj i j a p q
      · rw [only_in c] at p; rw [only_out c'] at q; exact (mix i j a c c' p q).elim
      · rw [only_out c] at p; rw [only_in c'] at q; exact (mix j i a c' c q p).elim
      · rw [only_out c] at p; rw [only_out c'] at q; exact ri.dj i j a p q
    · by_cases c : i ∈ ioIx fd.io
      · rw [only_in c] at p; exact rie.lv i a p
      · rw [only_out c] at p
        obtain ⟨o, e⟩ := ri.lv i a p
        exact stp.there a o e
    · rw [List.length_map]
      have := ioVals_len (l := fd.io) (env := e)
      omega
  have frs : ∀ {F' H' S' Z}, Stp (tB fd.body) F H (only (ioIx fd.io) S fun _ => noA) F' H' S' → Frs (tB fd.body) H (only (ioIx fd.io) S fun _ => noA) H' S' Z → Frs (ioIx fd.io) H S H' (only (ioIx fd.io) S' S) Z := fun {F' H' S' Z} stp fr a z => by
    obtain ⟨f1, f2, f3⟩ := fr a z
    have f2' : H a = none ∨ ∃ i ∈ ioIx fd.io, S i a := by
      rcases f2 with h | ⟨i, hi, h⟩
      · exact .inl h
      · by_cases c : i ∈ ioIx fd.io
        · rw [only_in c] at h; exact .inr ⟨i, c, h⟩
        · rw [only_out c] at h; exact h.elim
    refine ⟨f1, f2', fun i w => ?_⟩
    by_cases c : i ∈ ioIx fd.io
    · rw [only_in c] at w; exact f3 i w
    · rw [only_out c] at w
      rcases f2' with h | ⟨j, hj, h⟩
      · obtain ⟨o, e⟩ := ri.lv i a w
        rw [h] at e; cases e
      · cases ri.dj i j a w h; exact c hj
  -- by the body's answer
  cases hb : evB (callN C.tbl C.fuel k) C.fuel fd.body (ds.map some ++ List.replicate (fd.N.length - ds.length) none) with
  | bad => rw [hb] at post; exact post.elim
  | exc c d =>
    rw [hb] at post
    have hb' : evB ((C.lev k).inF fd).cal ((C.lev k).inF fd).fuel fd.body (ds.map some ++ List.replicate (fd.N.length - ds.length) none) = .exc c d := hb
    rw [hb']
    exact fun F' H' S' dx v stp sm e rv => post F' H' _ dx v stp.narrow sm e rv
  | ok fl =>
    rw [hb] at post
    have hb' : evB ((C.lev k).inF fd).cal ((C.lev k).inF fd).fuel fd.body (ds.map some ++ List.replicate (fd.N.length - ds.length) none) = .ok fl := hb
    rw [hb']
    cases fl with
    | nx e => exact fun F' H' S' σ' stp rie io => post F' H' _ _ noA stp.narrow (back stp rie io) RO.non Frs.none
    | rt d e => exact fun F' H' S' σ' v Z stp rie io ro fr => post F' H' _ v Z stp.narrow (back stp rie io) ro (frs stp fr)
    | bk e => exact post.elim
    | ct e => exact post.elim

theorem fn_step {k f : Nat} (FF : Facts (C.lev k)) {fd : Fd} {st : Stmt} (hf : C.tbl[f]? = some fd) (Fn : Fun C.K fd.nm fd.nm st (C.adr f) (C.fda f)) (hck : ckF C.tbl C.bl C.gl fd st = true) :
    FnOk C.P C.w C.K C.mg C.base (L2.CX C.P C.w) (k + 1) (C.adr f) (C.fda f) (fd.N.take fd.np) (spF (C.lev (k + 1)) fd f) := by
  unfold ckF at hck
  rw [Bool.and_eq_true] at hck
  refine fn_gen FF hf Fn hck.1 fun E X ctx => ?_
  obtain ⟨t, pt, se⟩ := ckB_ok (C := (C.lev k).inF fd) (FF.inF fd) (sc := defScope st) (n := fd.rt) fd.body (defBody st) hck.2
  exact ⟨t E, pt E X ctx, fun F H σ ds S _ _ ri D post => se E F H σ _ S ri D post⟩

/-- what stands of each function; sp: those that are proved by themselves; of a constant: its value -/
structure Text (C : CC) (sp : List Nat) (sts : List Stmt) : Prop where
  bl : ∀ x ∈ C.bl, BlOk C.mg x
  fn : ∀ f fd, C.tbl[f]? = some fd → f ∉ C.gl → ∃ st, sts[f]? = some st ∧ C.mg fd.nm = some (.ref (C.adr f)) ∧ Binds C.K (C.fda f) (fd.N.take fd.np) [] ∧ Fun C.K fd.nm fd.nm st (C.adr f) (C.fda f)
  gl : ∀ f fd, C.tbl[f]? = some fd → f ∈ C.gl → ∃ v u d, C.mg fd.nm = some u ∧ RelV v u ∧ (∀ F, Rp C.K F d v) ∧ ∀ k, callN C.tbl C.fuel (k + 1) f [] = .ok (d, [])
  sp : ∀ f fd st, C.tbl[f]? = some fd → f ∉ C.gl → f ∈ sp → sts[f]? = some st → Fun C.K fd.nm fd.nm st (C.adr f) (C.fda f) → ∀ k, Facts (C.lev k) → FnOk C.P C.w C.K C.mg C.base (L2.CX C.P C.w) (k + 1) (C.adr f) (C.fda f) (fd.N.take fd.np) (spF (C.lev (k + 1)) fd f)
def ckAll (tbl : List Fd) (bl : List Str) (gl sp : List Nat) : Nat → List Fd → List Stmt → Bool
  | _, [], _ => true
  | j, fd :: fs, st :: sts => (decide (j ∈ gl) || decide (j ∈ sp) || ckF tbl bl gl fd st) && ckAll tbl bl gl sp (j + 1) fs sts
  | _, _ :: _, [] => false
theorem ckAll_get {tbl : List Fd} {bl : List Str} {gl sp : List Nat} : ∀ {fs : List Fd} {sts : List Stmt} {j : Nat}, ckAll tbl bl gl sp j fs sts = true → ∀ {f : Nat} {fd : Fd} {st : Stmt}, fs[f]? = some fd → sts[f]? = some st → j + f ∈ gl ∨ j + f ∈ sp ∨ ckF tbl bl gl fd st = true
  | [], _, _, _, f, fd, st, h, _ => by simp at h
  | _ :: _, [], _, h, _, _, _, _, _ => by cases h
  | a :: fs, b :: sts, j, h, f, fd, st, h1, h2 => by
    have h : ((decide (j ∈ gl) || decide (j ∈ sp) || ckF tbl bl gl a b) && ckAll tbl bl gl sp (j + 1) fs sts) = true := h
    rw [Bool.and_eq_true] at h
    cases f with
    | zero =>
      simp at h1 h2; subst h1 h2
      have := h.1
      simp only [Bool.or_eq_true, decide_eq_true_eq] at this
      rcases this with (q | q) | q
      · exact .inl q
      · exact .inr (.inl q)
      · exact .inr (.inr q)
    | succ f =>
      have := ckAll_get h.2 (f := f) (fd := fd) (st := st) (by simpa using h1) (by simpa using h2)
      rw [show j + 1 + f = j + (f + 1) by omega] at this
      exact this
theorem all_levels {sp : List Nat} {sts : List Stmt} (T : Text C sp sts) (h : ckAll C.tbl C.bl C.gl sp 0 C.tbl sts = true) : ∀ k, Facts (C.lev k)
  | 0 => ⟨T.bl, fun f fd hf hg => by
    obtain ⟨st, hs, m, b, Fn⟩ := T.fn f fd hf hg
    have hno : ∀ vs H Q E, ¬ spF (C.lev 0) fd f vs H Q E := fun vs H Q E ⟨_, F, S, ds, _, _, post⟩ => post
    exact ⟨m, Fn.kp, b, ⟨fun vs H Q E h => (hno _ _ _ _ h).elim, fun A outer s H args us vs Q E _ _ _ _ h => (hno _ _ _ _ h).elim⟩⟩, fun f fd hf hg => by
    obtain ⟨v, u, d, m, r, hr, _⟩ := T.gl f fd hf hg
    exact ⟨v, u, m, r, (fun d q e => (nomatch e)), (fun c d e => (nomatch e))⟩⟩
  | k + 1 => ⟨T.bl, fun f fd hf hg => by
    obtain ⟨st, hs, m, b, Fn⟩ := T.fn f fd hf hg
    refine ⟨m, Fn.kp, b, ?_⟩
    by_cases c : f ∈ sp
    · exact T.sp f fd st hf hg c hs Fn k (all_levels T h k)
    · rcases ckAll_get h hf hs with q | q | q
      · rw [Nat.zero_add] at q; exact absurd q hg
      · rw [Nat.zero_add] at q; exact absurd q c
      · exact fn_step (all_levels T h k) hf Fn q, fun f fd hf hg => by
    obtain ⟨v, u, d, m, r, hr, hc⟩ := T.gl f fd hf hg
    have e : (C.lev (k + 1)).cal f [] = .ok (d, []) := hc k
    exact ⟨v, u, m, r, (fun d' q e' F => by rw [e] at e'; cases e'; exact hr F), (fun c d' e' => by rw [e] at e'; cases e')⟩⟩
/-- the law's promise -/
def spLaw (K : PySem.W.Frag) : Sp := fun vs H Q _ => ∃ (a : Addr) (ns : List Int), vs = [.ref a] ∧ SqL K H a (ns.map V.int) ∧ ns.length ≤ 63 ∧ ∀ H', Q (.bl true) H'
theorem law_ok {sp : List Nat} {sts : List Stmt} (T : Text C sp sts) (h : ckAll C.tbl C.bl C.gl sp 0 C.tbl sts = true) {k f : Nat} {fd : Fd} (hf : C.tbl[f]? = some fd) (hgl : f ∉ C.gl) (h1 : fd.np = 1) (h2 : fd.io = []) (hg : fd.g 0 = 0)
    (hlaw : ∀ ns : List Int, ns.length ≤ 63 → callN C.tbl C.fuel k f [.scr ns] = .ok (.bl true, [])) :
    FnOk C.P C.w C.K C.mg C.base (L2.CX C.P C.w) k (C.adr f) (C.fda f) (fd.N.take fd.np) (spLaw C.K) := by
  obtain ⟨_, _, _, fo⟩ := (all_levels T h k).fn f fd hf hgl
  refine fo.imp fun vs H Q E ⟨a, ns, e, hS, hlen, q⟩ => ?_
  subst e
  refine ⟨h1.symm, H, fun _ => noA, [.scr ns], h1.symm, ⟨Same.refl _, fun i d g => ?_, fun i j b p => p.elim, fun i b p => p.elim, Nat.le_refl _⟩, ?_⟩
  · have g' := gt_map g
    cases i with
    | zero =>
      simp at g'
      subst g'
      refine ⟨.ref a, rfl, ?_⟩
      rw [hg]
      exact ⟨a, rfl, hS⟩
    | succ i => simp at g'
  · have : (C.lev k).cal f [.scr ns] = .ok (.bl true, []) := hlaw ns hlen
    rw [this]
    intro F' H' S' v Z st ri ro fr
    rw [ro.bl_v]
    exact q H'
theorem cx_none {P : Program} {w : World} {outer : List PySem.Env} {H : Hp} {s : Shared} {e : Value} {s' : Shared} (h : L2.CX P w outer H s (fun _ _ _ => False) e s') : False := by
  obtain ⟨_, _, _, _, _, _, _, _, _, _, _, _, z⟩ := h
  exact z
end
end DL
set_option maxHeartbeats 1000000
/-! DLZ: a zip that is kept under a name, then walked. -/
namespace DL
open PySem PySem.Spec PyProof.Rows L2 ItX

section
variable {X : Cx} {pins : List (Addr × Obj)} {σ : L2.St} {H : Hp} {s : Shared}
theorem ne_ {a b : Nat} (h : a < b ∨ b < a) : @Ne Addr a b := fun e => by
  have e : (a : Nat) = b := e
  omega
def zI (n0 m l : Addr) : HO := .ext fun h => h.IsListIter m l 0 ∧ n0 ≤ m
def zP (n0 m : Addr) (a b : Value) : HO := .ext fun h => IsPair h m a b ∧ n0 ≤ m
def zZ (n0 m TI TO : Addr) : HO := .ext fun h => IsZip h m TI TO .none ∧ n0 ≤ m
theorem zI_ok {P : Program} {w : World} {H : Hp} {h : Heap} {n0 m l : Addr} (e : h.IsListIter m l 0) (hn : n0 ≤ m) : ObjOk P w H h m (zI n0 m l) := ⟨⟨e, hn⟩, let ⟨o, ho, _⟩ := e; ⟨o, ho⟩, fun h1 h2 q k => ⟨q.1.at k, q.2⟩⟩
theorem zP_ok {P : Program} {w : World} {H : Hp} {h : Heap} {n0 m : Addr} {a b : Value} (e : IsPair h m a b) (hn : n0 ≤ m) : ObjOk P w H h m (zP n0 m a b) := ⟨⟨e, hn⟩, ⟨_, e⟩, fun h1 h2 q k => ⟨k _ q.1, q.2⟩⟩
theorem zZ_ok {P : Program} {w : World} {H : Hp} {h : Heap} {n0 m TI TO : Addr} (e : IsZip h m TI TO .none) (hn : n0 ≤ m) : ObjOk P w H h m (zZ n0 m TI TO) := ⟨⟨e, hn⟩, ⟨_, e⟩, fun h1 h2 q k => ⟨k _ q.1, q.2⟩⟩
/-- the five objects of a zip, tracked -/
def trk (n0 m a b : Nat) (H : Hp) : Hp := upd (upd (upd (upd (upd H m (zI n0 m a)) (m + 1) (zI n0 (m + 1) b)) (m + 2) (zP n0 (m + 2) (.ref m) (.ref (m + 1)))) (m + 3) (zP n0 (m + 3) .none .none)) (m + 4) (zZ n0 (m + 4) (m + 2) (m + 3))
theorem trk_out {n0 m a b c : Nat} (h : c < m ∨ m + 4 < c) : trk n0 m a b H c = H c := by
  unfold trk
  rw [upd_ne (ne_ (by omega)), upd_ne (ne_ (by omega)), upd_ne (ne_ (by omega)), upd_ne (ne_ (by omega)), upd_ne (ne_ (by omega))]
theorem trk0 {n0 m a b : Nat} : trk n0 m a b H m = some (zI n0 m a) := by
  unfold trk
  rw [upd_ne (ne_ (by omega)), upd_ne (ne_ (by omega)), upd_ne (ne_ (by omega)), upd_ne (ne_ (by omega)), upd_same]
theorem trk1 {n0 m a b : Nat} : trk n0 m a b H (m + 1) = some (zI n0 (m + 1) b) := by
  unfold trk
  rw [upd_ne (ne_ (by omega)), upd_ne (ne_ (by omega)), upd_ne (ne_ (by omega)), upd_same]
theorem trk2 {n0 m a b : Nat} : trk n0 m a b H (m + 2) = some (zP n0 (m + 2) (.ref m) (.ref (m + 1))) := by
  unfold trk
  rw [upd_ne (ne_ (by omega)), upd_ne (ne_ (by omega)), upd_same]
theorem trk3 {n0 m a b : Nat} : trk n0 m a b H (m + 3) = some (zP n0 (m + 3) .none .none) := by
  unfold trk
  rw [upd_ne (ne_ (by omega)), upd_same]
theorem trk4 {n0 m a b : Nat} : trk n0 m a b H (m + 4) = some (zZ n0 (m + 4) (m + 2) (m + 3)) := by
  unfold trk
  rw [upd_same]
/-- all that is new -/
theorem trk_new {n0 m a b c : Nat} {u : HO} (hn : ∀ c, m ≤ c → H c = none) (e : trk n0 m a b H c = some u) : H c = some u ∨ (H c = none ∧ m ≤ c ∧ c ≤ m + 4) := by
  by_cases h : c < m ∨ m + 4 < c
  · rw [trk_out h] at e; exact .inl e
  · exact .inr ⟨hn c (by omega), by omega, by omega⟩
theorem trk_same {n0 m a b : Nat} (hn : ∀ c, m ≤ c → H c = none) : Same H (trk n0 m a b H) := fun (c : Nat) u e => by
  by_cases h : c < m ∨ m + 4 < c
  · rw [trk_out h]; exact e
  · rw [hn c (by omega)] at e; cases e
theorem five {m c : Nat} (h1 : m ≤ c) (h2 : c ≤ m + 4) : c = m ∨ c = m + 1 ∨ c = m + 2 ∨ c = m + 3 ∨ c = m + 4 := by omega
/-- name = zip(..) -/
def tZ (n0 : Nat) (i : Nat) (K : PySem.W.Frag) (ta : TA) : TS := fun D σ H => ta σ H fun vs H1 => ∃ (a b : Nat) (xs ys : List V), vs = [.ref a, .ref b] ∧ SqL K H1 a xs ∧ SqL K H1 b ys ∧ ∀ m : Nat, (∀ c : Nat, m ≤ c → H1 c = none) → n0 ≤ m → a < m → b < m → D.nx (σ.set i (some (.ref (m + 4)))) (trk n0 m a b H1)
theorem ps_zip {y : Str} {py p pos spos : Pos} {e e2 : Expr} {ta : TA} {i : Nat} (hN : X.N.Nodup) (hi : X.N[i]? = some y) (hx : X.env.scope.names.lookup y = some .local) (hg : Gl X "zip") (hm : X.mg "zip" = none) (ha : PA X [e, e2] ta)
    (hs : starEach [e, e2] X.env = (false, eval e X.env) :: starEach [e2] X.env) (hpl : (backTo pos (starEach [e2] X.env)).any (·.1) = false) :
    PS X (.Assign [.Name y py] (.Call (.Name "zip" p) [e, e2] [] pos) spos) (tZ X.s_0.heap.objs.size i X.K ta) := by
  refine ⟨fun pins s σ H D I h => ?_⟩
  refine wpAny_Assign_Name ?_ (swaps_ok rfl)
  refine Call_ (ld_blt I hg hm PyProof.Rows.boot_zip (PyProof.Rows.callWith_type1 (thn (ha.run pos pins s σ H _ I h) fun us s1 ⟨vs, H1, I1, r1, q1⟩ => ?_) hs hpl))
  obtain ⟨a, b, xs, ys, ex, hqx, hqy, q⟩ := q1
  subst ex
  cases r1 with
  | cons r rr =>
    cases rr with
    | cons r' rr =>
      cases rr
      cases r
      cases r'
      obtain ⟨its, rv, p1, _⟩ := I1.list hqx
      obtain ⟨its2, rv2, p2, _⟩ := I1.list hqy
      have la : a < s1.heap.objs.size := p1.lt
      have lb : b < s1.heap.objs.size := p2.lt
      refine call_zip_2 p1.isList p2.isList fun h' hz hTI hTO h1 h2 hsz hk => ?_
      have I2 : Inv X pins σ H1 { s1 with heap := h' } := I1.kept (t' := s1.toks) hk
      have fresh : ∀ c, s1.heap.objs.size ≤ c → H1 c = none := fun c hc => I1.hok.fresh hc
      have n0 := I1.sz
      have sm : Same H1 (trk X.s_0.heap.objs.size s1.heap.objs.size a b H1) := trk_same fresh
      have hok : HOk X.prog X.w (trk X.s_0.heap.objs.size s1.heap.objs.size a b H1) h' := fun c u e => by
        rcases trk_new fresh e with e' | ⟨_, c1, c2⟩
        · exact (I2.hok c u e').stay (fun _ _ _ z => z) (fun d z => sm d _ z) fun d zs z => sm d _ z
        · rcases five c1 c2 with q | q | q | q | q
          · rw [q, trk0] at e; cases e; rw [q]; exact zI_ok h1 n0
          · rw [q, trk1] at e; cases e; rw [q]; exact zI_ok h2 (Nat.le_trans n0 (Nat.le_add_right _ _))
          · rw [q, trk2] at e; cases e; rw [q]; exact zP_ok hTI (Nat.le_trans n0 (Nat.le_add_right _ _))
          · rw [q, trk3] at e; cases e; rw [q]; exact zP_ok hTO (Nat.le_trans n0 (Nat.le_add_right _ _))
          · rw [q, trk4] at e; cases e; rw [q]; exact zZ_ok hz (Nat.le_trans n0 (Nat.le_add_right _ _))
      have un : Un X.fs [] H1 (trk X.s_0.heap.objs.size s1.heap.objs.size a b H1) s1.heap h' :=
        ⟨fun c o e _ _ _ => hk c o e, fun c o e _ _ _ => ⟨o.slots, hk c o e⟩, fun c o e n _ => by rw [trk_out (.inl (Heap.lt_size e))]; exact n, fun c o e _ => ⟨o, hk c o e⟩, fun c zs z => sm c _ z, fun c o u z => sm c _ z, fun c ps z => ⟨#[], by rw [sm c _ z]; simp⟩⟩
      have I3 : Inv X pins σ (trk X.s_0.heap.objs.size s1.heap.objs.size a b H1) { s1 with heap := h' } := I1.un (t' := s1.toks) un hok
      exact store_ok I3 hN hi (.inl hx) (v := V.ref (s1.heap.objs.size + 4)) rfl (fun s2 I4 => ⟨_, _, I4, q _ fresh n0 la lb⟩) (.inr hx)
/-- the walk over it -/
def iZv (K : PySem.W.Frag) (n0 : Nat) (i : Nat) : TI := fun σ H R => ∃ (m a b : Nat) (H1 : Hp) (xs ys : List V), σ[i]? = some (some (.ref (m + 4))) ∧ H = trk n0 m a b H1 ∧ (∀ c : Nat, m ≤ c → H1 c = none) ∧ SqL K H1 a xs ∧ SqL K H1 b ys ∧ a < m ∧ b < m ∧ R (Itz K a b) H1
theorem drop_trk {n0 m a b : Nat} (hn : ∀ c, m ≤ c → H c = none) : dropH (dropH (dropH (dropH (dropH (trk n0 m a b H) (m + 4)) (m + 3)) (m + 2)) (m + 1)) m = H := by
  funext (c : Nat)
  by_cases h : c < m ∨ m + 4 < c
  · rw [dropH_ne (ne_ (by omega)), dropH_ne (ne_ (by omega)), dropH_ne (ne_ (by omega)), dropH_ne (ne_ (by omega)), dropH_ne (ne_ (by omega)), trk_out h]
  · rw [hn c (by omega)]
    rcases five (m := m) (c := c) (by omega) (by omega) with q | q | q | q | q
    · rw [q, dropH_same]
    · rw [q, dropH_ne (ne_ (by omega)), dropH_same]
    · rw [q, dropH_ne (ne_ (by omega)), dropH_ne (ne_ (by omega)), dropH_same]
    · rw [q, dropH_ne (ne_ (by omega)), dropH_ne (ne_ (by omega)), dropH_ne (ne_ (by omega)), dropH_same]
    · rw [q, dropH_ne (ne_ (by omega)), dropH_ne (ne_ (by omega)), dropH_ne (ne_ (by omega)), dropH_ne (ne_ (by omega)), dropH_same]
theorem pi_zv {elts : List Expr} {kk : Nat} {tpos p : Pos} {i : Nat} {x : Str} (hN : X.N[i]? = some x) (hv : Vis X.env.scope x) (hd : (x == ("__debug__" : Str)) = false) (hcd : (x == ("__classdict__" : Str)) = false) :
    PI X (.Tuple elts kk tpos) (.Name x p) (iZv X.K X.s_0.heap.objs.size i) := by
  refine ⟨fun pins s σ H R I h => ?_⟩
  obtain ⟨m, a, b, H1, xs, ys, hs, rfl, fr, hqx, hqy, la, lb, q⟩ := h
  refine thn ((pe_var (pos := p) (i := i) hN hv hd hcd).run pins s σ (trk X.s_0.heap.objs.size m a b H1) (fun v H2 => v = .ref (m + 4) ∧ H2 = trk X.s_0.heap.objs.size m a b H1) I ⟨.ref (m + 4), hs, rfl, rfl⟩) fun u s1 ⟨v, H2, I1, r1, ev, eH⟩ => ?_
  subst ev
  rw [eH] at I1
  cases r1
  obtain ⟨⟨h1, g0⟩, _⟩ := I1.hok _ _ trk0
  obtain ⟨⟨h2, g1⟩, _⟩ := I1.hok _ _ trk1
  obtain ⟨⟨h3, g2⟩, _⟩ := I1.hok _ _ trk2
  obtain ⟨⟨h4, g3⟩, _⟩ := I1.hok _ _ trk3
  obtain ⟨⟨h5, g4⟩, _⟩ := I1.hok _ _ trk4
  refine wpAny_pyIter_zip h5 ?_
  have J4 := inv_drop I1 trk4
  have J3 := inv_drop (a := (m + 3 : Nat)) J4 (by rw [dropH_ne (ne_ (by omega))]; exact trk3)
  have J2 := inv_drop (a := (m + 2 : Nat)) J3 (by rw [dropH_ne (ne_ (by omega)), dropH_ne (ne_ (by omega))]; exact trk2)
  have J1 := inv_drop (a := (m + 1 : Nat)) J2 (by rw [dropH_ne (ne_ (by omega)), dropH_ne (ne_ (by omega)), dropH_ne (ne_ (by omega))]; exact trk1)
  have J0 := inv_drop (a := (m : Nat)) J1 (by rw [dropH_ne (ne_ (by omega)), dropH_ne (ne_ (by omega)), dropH_ne (ne_ (by omega)), dropH_ne (ne_ (by omega))]; exact trk0)
  rw [drop_trk fr] at J0
  refine ⟨m + 4, [m + 4, m + 2, m + 3, m, m + 1], _, _, H1, rfl, J0, turn_zip (PySem.W.ktu_apart m a b la lb), ⟨h5, h3, ⟨_, _, h4⟩, h1, h2⟩, fun (c : Nat) hc => ?_, q⟩
  have e' : c = m + 4 ∨ c = m + 2 ∨ c = m + 3 ∨ c = m ∨ c = m + 1 := by simpa using hc
  have key : ∃ u, trk X.s_0.heap.objs.size m a b H1 c = some u ∧ X.s_0.heap.objs.size ≤ c := by
    rcases e' with z | z | z | z | z
    · rw [z]; exact ⟨_, trk4, g4⟩
    · rw [z]; exact ⟨_, trk2, g2⟩
    · rw [z]; exact ⟨_, trk3, g3⟩
    · rw [z]; exact ⟨_, trk0, g0⟩
    · rw [z]; exact ⟨_, trk1, g1⟩
  obtain ⟨u, hu, hn⟩ := key
  obtain ⟨_, f1⟩ := inv_fp I1 hu hn
  exact ⟨fr c (by omega), f1⟩
end
end DL
set_option maxHeartbeats 1000000
/-! DLY: a function that keeps a zip of a list and its rest under a name, and asks all of its pairs. -/
namespace DL
open PySem PySem.Spec PyProof.Rows L2 ItX

def zipIR (r : Nat) (g : Tg) (el : Ex) : Sms := .cons (.ret (.b1 .all (.lc g (.zip (.var r) (.slc true false (.var r) (.int 1) .non)) .nil el))) .nil
def ckZ1 (I : CI) (sc : Scope) (r i : Nat) : Stmt → Bool
  | .Assign [.Name y _] (.Call f [e1, .Subscript e2 (.Slice (some (.Constant (.int z) _ _)) none none _) _] [] _) _ => decide (I.N[i]? = some y) && decide (sc.names.lookup y = some .local) && isBlt I sc "zip" f && isVar I sc r e1 && isVar I sc r e2 && decide (z = 1)
  | _ => false
def ckZ2 (I : CI) (sc : Scope) (i : Nat) (g : Tg) (el : Ex) : Stmt → Bool
  | .Return (some (.Call f [.ListComp elt [⟨.Tuple elts tk tp, .Name y p2, [], k⟩] scope lpos] [] cpos)) _ => isBlt I sc "all" f && isVar I sc i (.Name y p2) && decide (k = 0) && blkOk I.N sc scope (ownOf I g) && decide ((ownOf I g).map (·.2) = tgs g) && ckG I (relS scope sc) scope g (.Tuple elts tk tp) && ck I (relS scope sc) false el elt
  | _ => false

theorem zip_ev {cal : Cal} {fuel r : Nat} {g : Tg} {el : Ex} {env : Env} : evB cal fuel (zipIR r g el) env = (evW cal (.zip (.var r) (.slc true false (.var r) (.int 1) .non)) env).bind fun p => (lcL (unset (tgs g)) (bindT g) (evTs cal .nil) (evE cal el) p.1 (unset (tgs g) p.2)).bind fun q =>
    if q.1.length ≤ sizeLine then (ofOpt (b1F .all (.lst q.1))).bind fun d => R.ok (Fl.rt d (reset (tgs g) p.2 q.2)) else R.bad := by
  have e : evB cal fuel (zipIR r g el) env = ((((((evW cal (.zip (.var r) (.slc true false (.var r) (.int 1) .non)) env).bind fun p => (lcL (unset (tgs g)) (bindT g) (evTs cal .nil) (evE cal el) p.1 (unset (tgs g) p.2)).bind fun q => if q.1.length ≤ sizeLine then R.ok (D.lst q.1, reset (tgs g) p.2 q.2) else R.bad).bind fun p => (ofOpt (b1F .all p.1)).bind fun d => R.ok (d, p.2)).bind fun p => R.ok (Fl.rt p.1 p.2))).bind fun f => match f with
    | Fl.nx e => R.ok (Fl.nx e)
    | Fl.rt d e => R.ok (Fl.rt d e)
    | Fl.bk e => R.ok (Fl.bk e)
    | Fl.ct e => R.ok (Fl.ct e)) := rfl
  rw [e]
  cases evW cal (.zip (.var r) (.slc true false (.var r) (.int 1) .non)) env with
  | bad => rfl
  | exc c d => rfl
  | ok p =>
    simp only [R.bind_ok]
    cases lcL (unset (tgs g)) (bindT g) (evTs cal .nil) (evE cal el) p.1 (unset (tgs g) p.2) with
    | bad => rfl
    | exc c d => rfl
    | ok q =>
      simp only [R.bind_ok]
      by_cases h : q.1.length ≤ sizeLine
      · rw [if_pos h, if_pos h]
        simp only [R.bind_ok]
        cases b1F .all (.lst q.1) <;> rfl
      · rw [if_neg h, if_neg h]; rfl
theorem zip_w {cal : Cal} {r : Nat} {env : Env} {d : D} (h : gt env r = some d) : evW cal (.zip (.var r) (.slc true false (.var r) (.int 1) .non)) env = match d with
    | .lst ds => .ok (pairUp ds (cutL ds (some 1) none), env)
    | _ => .bad := by
  have e : evW cal (.zip (.var r) (.slc true false (.var r) (.int 1) .non)) env = ((getv r env).bind fun d => R.ok (d, env)).bind fun p => (((getv r p.2).bind fun d => R.ok (d, p.2)).bind fun p => ((R.ok (D.int 1, p.2)).bind fun q => (ofOpt (asI q.1)).bind fun i => R.ok (some i, q.2)).bind fun q => (R.ok (none, q.2)).bind fun r => (ofOpt (slcF p.1 q.1 r.1)).bind fun d => R.ok (d, r.2)).bind fun q => match p.1, q.1 with
    | .lst xs, .lst ys => .ok (pairUp xs ys, q.2)
    | _, _ => .bad := rfl
  rw [e, gt_some h]
  simp only [R.bind_ok]
  rw [gt_some h]
  cases d <;> first | rfl | skip
  rename_i z
  show (((ofOpt (if z.length ≤ sizeLine then some (D.str (cutS z (some 1) none)) else none)).bind fun d => R.ok (d, env)).bind fun q => match D.str z, q.1 with
    | .lst xs, .lst ys => R.ok (pairUp xs ys, q.2)
    | _, _ => R.bad) = R.bad
  split <;> rfl
section
variable {C : CC} {E : XK} {X : Cx} {T : List Nat} {F H F1 H1 : Hp} {S S1 : Nat → AS} {sc : Scope} {n : Nat} {K : PySem.W.Frag} {G : Nat → Nat}
theorem RI.over {σ : L2.St} {env : Env} {i : Nat} {v : V} (r : RI K G F H σ env S) (h : gt env i = none) : RI K G F H (σ.set i (some v)) env S :=
  ⟨r.sub, fun j d g => by
    obtain ⟨w, e, q⟩ := r.cell j d g
    have : i ≠ j := fun e => by subst e; rw [h] at g; cases g
    exact ⟨w, by rw [List.getElem?_set_ne this]; exact e, q⟩, r.dj, r.lv, by rw [List.length_set]; exact r.len⟩
theorem zip_body (FF : Facts C) {r i : Nat} {g : Tg} {el : Ex} {st1 st2 : Stmt} (h1 : ckZ1 C.ci sc r i st1 = true) (h2 : ckZ2 C.ci sc i g el st2 = true) (hr : C.g r = 0) (hi : i ∉ C.io) (hn : n ≤ 9) (c : CtxS C sc E X) :
    ∃ t, PSs X [st1, st2] t ∧ ∀ F H σ env S, RI C.K C.g F H σ env S → gt env i = none → ∀ D : Ends, Post C E (tB (zipIR r g el)) F H S (evB C.cal C.fuel (zipIR r g el) env) (PostF C n (tB (zipIR r g el)) F H S σ D) → i < σ.length → t D σ H := by
  unfold ckZ1 at h1
  split at h1 <;> first | contradiction | skip
  rename_i y py f e1 e2 z zk zp zp2 pos2 pos spos
  simp only [Bool.and_eq_true, decide_eq_true_eq] at h1
  obtain ⟨⟨⟨⟨⟨a1, a2⟩, a3⟩, a4⟩, a5⟩, rfl⟩ := h1
  unfold ckZ2 at h2
  split at h2 <;> first | contradiction | skip
  rename_i fa elt elts tk tp y2 p2 k scope lpos cpos rpos
  simp only [Bool.and_eq_true, decide_eq_true_eq] at h2
  obtain ⟨⟨⟨⟨⟨⟨b1, b2⟩, rfl⟩, b4⟩, b5⟩, b6⟩, b7⟩ := h2
  have bok := blkOk_ok b4
  obtain ⟨te, pe, _, _, se⟩ := ck_ok FF el (relS scope sc) false elt b7
  obtain ⟨sg, g0⟩ := g_sem b6
  have hown : (ownOf C.ci g).map (·.2) = tgs g := b5
  obtain ⟨zp, rfl, zg, _, _, zm⟩ := isBlt_ok c.toCtxOk FF.bl a3
  have fnc : ∀ (s : Shared) (H : Hp) (a : Addr) (cl : List (Str × Addr)) (fp : List Addr), ∀ x, scope.names.lookup x = some .cell → (X.blk s H scope (compEnvC scope cl a X.env) fp).fn x = true := fun s H a cl fp x hx => by
    show (scope.names.lookup x == some .cell) = true
    rw [hx]; rfl
  have ns1 : noStar e1 = true := by cases e1 <;> first | rfl | (cases a4; done)
  have nse : noStar elt = true ∨ True := .inr trivial
  have hn2 : noStar (.Subscript e2 (.Slice (some (.Constant (.int 1) zk zp)) none none zp2) pos2) = true := rfl
  -- the text
  refine ⟨tSeq (tZ X.s_0.heap.objs.size i X.K (tCons (tVar r) (tCons (tSl (rSl X.K) (tVar r) (tPart (tC (.int 1))) tNoPart) tNil))) (tRet (tCB (rb1 X.K .all) (tCons (tLc (iZv X.K X.s_0.heap.objs.size i) (gOf C.K g) tYes (te E0) ((ownOf C.ci g).map (·.2))) tNil))), ?_, ?_⟩
  · refine pss_cons (ps_zip (by rw [c.N]; exact c.nd) (by rw [c.N]; exact a1) (by rw [c.scp]; exact a2) zg zm (pa_cons (var_ok c.toCtxOk a4) (pa_cons (pe_slice slr_any (var_ok c.toCtxOk a5) (po_some pe_int) po_none) pa_nil rfl) (star_ok ns1)) (star_ok ns1) rfl) (pss_one (ps_ret ?_))
    refine pe_b1 c.toCtxOk FF.bl (o := .all) rfl b1 rfl ?_
    have b2' := b2
    unfold isVar at b2'
    simp only [Bool.and_eq_true, decide_eq_true_eq, Bool.not_eq_true'] at b2'
    obtain ⟨⟨⟨v1, v2⟩, v3⟩, v4⟩ := b2'
    refine pe_lc c.calm (by rw [c.N]; exact c.nd) (pi_zv (by rw [c.N]; exact v1) ?_ v3 v4) (by rw [c.N, c.scp]; exact bok) (fun s H a cl fp => g_ok (blk_ctx c.toCtxOk bok s H a cl fp) (fnc s H a cl fp) b6) (fun s H a cl fp => pts_nil) (fun s H a cl fp => pe E0 _ (blk_ctx c.toCtxOk bok s H a cl fp)) (set_ok rfl)
    unfold vis at v2
    simp only [Bool.or_eq_true, decide_eq_true_eq] at v2
    rw [c.scp]; exact v2
  -- what it does
  · intro F H σ env S ri hie D post hlen
    rw [c.K, hown]
    rw [zip_ev] at post
    cases hd : gt env r with
    | none =>
      have : evW C.cal (.zip (.var r) (.slc true false (.var r) (.int 1) .non)) env = .bad := by
        show ((getv r env).bind fun d => R.ok (d, env)).bind _ = _
        unfold getv
        rw [hd]; rfl
      rw [this] at post
      exact post.elim
    | some d =>
      rw [zip_w hd] at post
      obtain ⟨v, ev, rv⟩ := ri.cell r d hd
      have hri : r ≠ i := fun e => by subst e; rw [hie] at hd; cases hd
      cases d <;> first | (exact post.elim) | skip
      rename_i ds
      simp only [R.bind_ok] at post
      rw [hr] at rv
      obtain ⟨a, xs, rfl, ea, rr⟩ := rv
      have eH : H a = some (.lst xs) := ri.sub _ _ ea
      -- the arguments
      refine ⟨.ref a, ev, .ref a, ev, 1, rfl, .inl ⟨a, xs, rfl, .inl (.inl eH), fun p np => ?_⟩⟩
      have np' : F p = none := ri.sub.free np
      have hap : a ≠ p := ne_of_none eH np
      have ext : Ext F H (upd F p (.lst (cutV xs (some 1) none))) (upd H p (.lst (cutV xs (some 1) none))) := Ext.newF ri.sub np
      have rr2 := rr.mono ext.f
      have cut2 : RpL C.K (upd F p (.lst (cutV xs (some 1) none))) (cutL ds (some 1) none) (cutV xs (some 1) none) := (cut_rp rr (some 1) none).mono ext.f
      have eF1 : (upd F p (.lst (cutV xs (some 1) none))) a = some (.lst xs) := ext.f _ _ ea
      refine ⟨a, p, xs, cutV xs (some 1) none, rfl, .inl (.inl (ext.h _ _ eH)), .inl (.inl upd_same), fun m fr hm ha hp => ?_⟩
      -- the walk
      refine ⟨m, a, p, upd H p (.lst (cutV xs (some 1) none)), xs, cutV xs (some 1) none, List.getElem?_set_self (by omega), rfl, fr, .inl (.inl (ext.h _ _ eH)), .inl (.inl upd_same), ha, hp, ?_⟩
      have ri1 : RI C.K C.g (upd F p (.lst (cutV xs (some 1) none))) (upd H p (.lst (cutV xs (some 1) none))) (σ.set i (some (.ref (m + 4)))) env S := (ri.ext ext).over hie
      obtain ⟨a', p', xs', ys', e1, e2, s1, s2, wk⟩ := wkd_zip (K := C.K) (Za := noA) (Zb := noA) (na := 0) (nb := 0) (va := .ref a) (vb := .ref p) (da := ds) (db := cutL ds (some 1) none) ⟨a, xs, rfl, eF1, rr2⟩ ⟨p, _, rfl, upd_same, cut2⟩ (Nat.zero_le _) (Nat.zero_le _) ri1.sub
      cases e1
      cases e2
      have st0 : Stp [] F H S (upd F p (.lst (cutV xs (some 1) none))) (upd H p (.lst (cutV xs (some 1) none))) S := ext.stp
      have key := lc_at (C := C) (E := E) (T1 := []) (T2 := tTs .nil) (T3 := tE el) (b := none) (p := (pairUp ds (cutL ds (some 1) none), env)) (cnd := evTs C.cal .nil) sg (sem_tyes (T := tTs .nil)) (se E0) g0 (fun i h => nomatch h) st0 ri1 wk (fun z hz => (hz.elim id id).elim) (fun x H1 => rb1 C.K .all [x] H1 D.rt) ?_
      · exact key
      · have sub : ∀ j ∈ [] ++ (tTs .nil ++ tE el), j ∈ tB (zipIR r g el) := fun j hj => by
          simp [zipIR, tB, tS, tE, tW, tTs] at hj ⊢
          exact hj
        revert post
        simp only
        cases hq : lcL (unset (tgs g)) (bindT g) (evTs C.cal .nil) (evE C.cal el) (pairUp ds (cutL ds (some 1) none)) (unset (tgs g) env) with
        | bad => exact fun post => post.elim
        | exc c d => exact absurd hq lcL_exc
        | ok q =>
          simp only [R.bind_ok]
          by_cases hl : q.1.length ≤ sizeLine
          · rw [if_pos hl, if_pos hl]
            intro post
            obtain ⟨d, hdd, post⟩ := post.opt
            intro F' H' S' v Z st ri' ro fr
            refine (vo_all (K := C.K) (al := false) (n := 9)) F' H' (.lst q.1) d v _ Z ri'.sub ro (fun h => nomatch h) hdd _ fun F3 H3 v3 Z3 ext3 rz fz => ?_
            have st3 : Stp (tB (zipIR r g el)) F H S F3 H3 S' := ((st.trans (T2 := []) ext3.stp).weak fun j hj => by simpa using hj).weak sub
            refine post F3 H3 S' _ v3 noA st3 (ri'.ext ext3) (fun j hj => List.getElem?_set_ne fun e => hi (by rw [e]; exact hj)) ?_ Frs.none
            have : ∃ b, d = DL.D.bl b := by
              have : ((blsOf q.1)).bind (fun bs => some (DL.D.bl (bs.all id))) = some d := hdd
              obtain ⟨bs, _, e⟩ := Option.bind_eq_some_iff.mp this
              cases e
              exact ⟨_, rfl⟩
            obtain ⟨b, rfl⟩ := this
            rw [rz.bl_v]
            exact RO.bl
          · rw [if_neg hl]
            exact fun post => post.elim
theorem zip_fn {k f r i : Nat} {g : Tg} {el : Ex} (FF : Facts (C.lev k)) {fd : Fd} {st st1 st2 : Stmt} (hf : C.tbl[f]? = some fd) (Fn : Fun C.K fd.nm fd.nm st (C.adr f) (C.fda f)) (hck : ckF0 fd st = true) (hb : defBody st = [st1, st2]) (hfb : fd.body = zipIR r g el)
    (h1 : ckZ1 ⟨fd.N, fd.G, ioIx fd.io, C.tbl, C.bl, C.gl⟩ (defScope st) r i st1 = true) (h2 : ckZ2 ⟨fd.N, fd.G, ioIx fd.io, C.tbl, C.bl, C.gl⟩ (defScope st) i g el st2 = true) (hr : fd.g r = 0) (hi : i ∉ ioIx fd.io) (hn : fd.rt ≤ 9) (hnp : fd.np ≤ i) (hiN : i < fd.N.length) :
    FnOk C.P C.w C.K C.mg C.base (L2.CX C.P C.w) (k + 1) (C.adr f) (C.fda f) (fd.N.take fd.np) (spF (C.lev (k + 1)) fd f) := by
  refine fn_gen FF hf Fn hck fun E X ctx => ?_
  obtain ⟨t, pt, se⟩ := zip_body (C := (C.lev k).inF fd) (n := fd.rt) (FF.inF fd) h1 h2 hr hi hn ctx
  rw [hb, hfb]
  refine ⟨t, pt, fun F H σ ds S hd hl ri D post => se F H σ _ S ri ?_ D post (by omega)⟩
  cases e : gt (ds.map some ++ List.replicate (fd.N.length - ds.length) none) i with
  | none => rfl
  | some d =>
    have := gt_start e
    rw [List.getElem?_eq_none (by omega)] at this
    cases this
end
end DL
/-! PL1: the typed layer: one-way simulation of the evaluator by plain functions. -/
namespace DL
open PySem PySem.Spec PyProof.Rows L2

/-- whatever m answers, x answers accordingly -/
def SR {β γ : Type} (x : R γ) (m : R β) (Q : β → γ → Prop) : Prop :=
  match m with
  | .ok b => ∃ g, x = .ok g ∧ Q b g
  | .exc c d => x = .exc c d
  | .bad => True
abbrev SE {β γ : Type} (x : R γ) (m : R β) (out : β → γ) : Prop := SR x m fun b g => g = out b
section
variable {α β γ δ : Type} {x : R γ} {m : R β} {Q : β → γ → Prop}
theorem SR.ok {g : γ} {b : β} (q : Q b g) : SR (.ok g) (.ok b) Q := ⟨g, rfl, q⟩
theorem SR.of {g : γ} {b : β} (h : x = .ok g) (q : Q b g) : SR x (.ok b) Q := ⟨g, h, q⟩
theorem SR.bad : SR x .bad Q := trivial
theorem SR.bindp {z : R δ} {f : δ → R γ} {g : δ} (h : z = .ok g) (r : SR (f g) m Q) : SR (z.bind f) m Q := by subst h; exact r
theorem SR.bindm {z : R δ} {f : δ → R γ} {m1 : R α} {k : α → R β} {P : α → δ → Prop} (h : SR z m1 P) (r : ∀ a g, P a g → SR (f g) (k a) Q) : SR (z.bind f) (m1.bind k) Q := by
  cases m1 with
  | ok a => obtain ⟨g, rfl, q⟩ := h; exact r a g q
  | exc c d => have h : z = .exc c d := h; subst h; exact rfl
  | bad => trivial
theorem SR.bind {z : R δ} {f : δ → R γ} {m1 : R α} {k : α → R β} {out : α → δ} (h : SE z m1 out) (r : ∀ a, SR (f (out a)) (k a) Q) : SR (z.bind f) (m1.bind k) Q := SR.bindm h fun a g q => by subst q; exact r a
/-- the answer's last step -/
theorem SR.last {z : R δ} {f : δ → R γ} {out : β → δ} (h : SE z m out) (r : ∀ a, ∃ g, f (out a) = .ok g ∧ Q a g) : SR (z.bind f) m Q := by
  cases m with
  | ok a => obtain ⟨g, rfl, q⟩ := h; subst q; exact r a
  | exc c d => have h : z = .exc c d := h; subst h; exact rfl
  | bad => trivial
theorem SE.get {x : R γ} {b : β} {out : β → γ} (h : SE x (.ok b) out) : x = .ok (out b) := by
  obtain ⟨g, h1, h2⟩ := h; rw [h1, h2]
theorem SR.wk {Q' : β → γ → Prop} (h : SR x m Q) (q : ∀ b g, Q b g → Q' b g) : SR x m Q' := by
  cases m with
  | ok a => obtain ⟨g, rfl, r⟩ := h; exact ⟨g, rfl, q _ _ r⟩
  | exc c d => exact h
  | bad => trivial
theorem SR.ite {c : Bool} {m1 m2 : R β} (h1 : c = true → SR x m1 Q) (h2 : c = false → SR x m2 Q) : SR x (if c = true then m1 else m2) Q := by
  cases c with
  | true => exact h1 rfl
  | false => exact h2 rfl
theorem SR.grd {c : Prop} [Decidable c] (h : c → SR x m Q) : SR x (if c then m else .bad) Q := by
  split
  · exact h (by assumption)
  · trivial
theorem SR.opt {o : Option β} (h : ∀ b, o = some b → SR x (.ok b) Q) : SR x (ofOpt o) Q := by
  cases o with
  | none => trivial
  | some b => exact h b rfl
theorem ofo {α : Type} {o : Option α} {a : α} (h : o = some a) : ofOpt o = .ok a := by subst h; rfl
theorem R.bind_assoc {α β γ : Type} (x : R α) (f : α → R β) (g : β → R γ) : (x.bind f).bind g = x.bind fun a => (f a).bind g := by cases x <;> rfl
theorem R.bind_ok_right {α : Type} (x : R α) : x.bind R.ok = x := by cases x <;> rfl
end

/-! ### encoders -/
abbrev eI : Int → D := D.int
abbrev eB : Bool → D := D.bl
abbrev eS : Str → D := D.str
abbrev eA : D → D := fun d => d
abbrev eU : Unit → D := fun _ => .non
section
variable {α β γ δ : Type}
def eL (e : α → D) (l : List α) : D := .lst (l.map e)
def eQ (e : α → D) (l : List α) : D := .tup (l.map e)
def eP2 (a : α → D) (b : β → D) (p : α × β) : D := .tup [a p.1, b p.2]
def eP3 (a : α → D) (b : β → D) (c : γ → D) (p : α × β × γ) : D := .tup [a p.1, b p.2.1, c p.2.2]
def eP4 (a : α → D) (b : β → D) (c : γ → D) (d : δ → D) (p : α × β × γ × δ) : D := .tup [a p.1, b p.2.1, c p.2.2.1, d p.2.2.2]
def eO (e : α → D) : Option α → D
  | none => .non
  | some a => e a
def eDI (e : α → D) (l : List (Int × α)) : D := .dic (l.map fun p => (.inl p.1, e p.2))
def eDS (e : α → D) (l : List (Str × α)) : D := .dic (l.map fun p => (.inr p.1, e p.2))
end
abbrev eSC (ns : List Int) : D := .scr ns
/-- the record of draws -/
abbrev St := List Int × Int
def eST (s : St) : D := .dic [(.inr "numbers", eL eI s.1), (.inr "at", .int s.2)]

/-! ### plain steps -/
namespace R
variable {α β γ σ ρ : Type}
@[irreducible] def sz (l : List α) : R (List α) := if l.length ≤ sizeLine then .ok l else .bad
@[irreducible] def app (l : List α) (x : α) : R (List α) := if l.length < sizeLine then .ok (l ++ [x]) else .bad
def ix (l : List α) (i : Int) : R α := ofOpt (atI l i)
def setI (l : List α) (i : Int) (v : α) : R (List α) := (ofOpt (ixN l.length i)).bind fun j => .ok (l.set j v)
end R
def rangeI (lo hi : Int) : List Int := (List.range (hi - lo).toNat).map fun (i : Nat) => lo + (i : Int)
def rangeD (hi lo : Int) : List Int := (List.range (hi - lo).toNat).map fun (i : Nat) => hi + (i : Int) * -1
namespace R
variable {α β γ σ ρ : Type}
@[irreducible] def rng (lo hi : Int) : R (List Int) := if rngOk lo hi = true then .ok (rangeI lo hi) else .bad
@[irreducible] def rngDn (hi lo : Int) : R (List Int) := if rngOk hi lo = true then .ok (rangeD hi lo) else .bad
@[irreducible] def rngS (lo hi : Int) : R (List Int) := if (rngOk lo hi && decide (hi - lo ≤ 16777216)) = true then .ok (rangeI lo hi) else .bad
@[irreducible] def mul (i j : Int) : R Int := if mulOk i j = true then .ok (i * j) else .bad
@[irreducible] def mulA (i j : Int) : R Int := if i.natAbs < 18446744073709551616 ∨ j.natAbs < 18446744073709551616 then .ok (i * j) else .bad
@[irreducible] def fdiv (i j : Int) : R Int := if 0 < j ∧ j.natAbs.log2 < 9000 then .ok (i / j) else .bad
@[irreducible] def fdivA (i j : Int) : R Int := if 0 < j ∧ j < 1073741824 then .ok (i / j) else .bad
@[irreducible] def mod (i j : Int) : R Int := if 0 < j then .ok (i % j) else .bad
@[irreducible] def pow (i j : Int) : R Int := if 0 ≤ j ∧ j ≤ 1000000 ∧ i.natAbs < 18446744073709551616 then .ok (i ^ j.toNat) else .bad
@[irreducible] def fact (n : Int) : R Int := if 0 ≤ n ∧ n ≤ 1000 then .ok (facN n.toNat) else .bad
def getO (o : Option α) : R α := ofOpt o
/-- a comprehension: what each item gives, if anything -/
def fm (h : α → R (Option β)) : List α → R (List β)
  | [] => .ok []
  | x :: xs => match h x with
    | .ok (some y) => match fm h xs with
      | .ok ys => .ok (y :: ys)
      | _ => .bad
    | .ok none => fm h xs
    | _ => .bad
def mapM (f : α → R β) : List α → R (List β)
  | [] => .ok []
  | x :: xs => match f x with
    | .ok y => match mapM f xs with
      | .ok ys => .ok (y :: ys)
      | _ => .bad
    | _ => .bad
/-- a comprehension whose items change something -/
def mapS (f : α → σ → R (β × σ)) : List α → σ → R (List β × σ)
  | [], s => .ok ([], s)
  | x :: xs, s => match f x s with
    | .ok (y, s1) => match mapS f xs s1 with
      | .ok (ys, s2) => .ok (y :: ys, s2)
      | _ => .bad
    | _ => .bad
def for_ (f : α → σ → R σ) : List α → σ → R σ
  | [], s => .ok s
  | x :: xs, s => (f x s).bind fun s' => for_ f xs s'
end R
/-- how a turn of a loop ends -/
inductive Fw (σ ρ : Type) where
  | nx (s : σ) | bk (s : σ) | rt (r : ρ)
namespace R
variable {α β γ σ ρ : Type}
def forF (f : α → σ → R (Fw σ ρ)) : List α → σ → R (Sum σ ρ)
  | [], s => .ok (.inl s)
  | x :: xs, s => (f x s).bind fun w => match w with
    | .nx s' => forF f xs s'
    | .bk s' => .ok (.inl s')
    | .rt r => .ok (.inr r)
def whl (c : σ → R Bool) (f : σ → R σ) : Nat → σ → R σ
  | 0, _ => .bad
  | n + 1, s => (c s).bind fun b => if b = true then (f s).bind fun s' => whl c f n s' else .ok s
def whlF (c : σ → R Bool) (f : σ → R (Fw σ ρ)) : Nat → σ → R (Sum σ ρ)
  | 0, _ => .bad
  | n + 1, s => (c s).bind fun b => if b = true then (f s).bind fun w => match w with
      | .nx s' => whlF c f n s'
      | .bk s' => .ok (.inl s')
      | .rt r => .ok (.inr r) else .ok (.inl s)
def thenF (m : R (Sum σ ρ)) (k : σ → R β) (w : ρ → R β) : R β := m.bind fun z => match z with
  | .inl s => k s
  | .inr r => w r
/-- a part of a block that may end early -/
def thenW (m : R (Fw σ ρ)) (k : σ → R β) (b : σ → R β) (w : ρ → R β) : R β := m.bind fun z => match z with
  | .nx s => k s
  | .bk s => b s
  | .rt r => w r
end R

/-! ### expressions -/
section
variable {cal : Cal} {env env1 env2 : Env} {a b c : Ex} {da db dc d : D} {es r : Exs} {ds : List D} {β : Type} {m : R β}
theorem PE.var {i : Nat} (h : gt env i = some d) : evE cal (.var i) env = .ok (d, env) := by rw [evE, getv, h]; rfl
theorem PE.int {z : Int} : evE cal (.int z) env = .ok (.int z, env) := by rw [evE]
theorem PE.str {z : Str} : evE cal (.str z) env = .ok (.str z, env) := by rw [evE]
theorem PE.bl {z : Bool} : evE cal (.bl z) env = .ok (.bl z, env) := by rw [evE]
theorem PE.non : evE cal .non env = .ok (.non, env) := by rw [evE]
theorem PE.dnew : evE cal (.dnew false) env = .ok (.dic [], env) := by rw [evE]; rfl
theorem PE.bin {o : Op2} (ha : evE cal a env = .ok (da, env)) (hb : evE cal b env = .ok (db, env)) (h : opF2 o da db = some d) : evE cal (.bin o a b) env = .ok (d, env) := by
  rw [evE, ha]; simp only [R.bind_ok]; rw [hb]; simp only [R.bind_ok, h]; rfl
theorem PE.un {o : Op1} (ha : evE cal a env = .ok (da, env)) (h : opF1 o da = some d) : evE cal (.un o a) env = .ok (d, env) := by
  rw [evE, ha]; simp only [R.bind_ok, h]; rfl
theorem PE.b1 {o : B1} (ha : evE cal a env = .ok (da, env)) (h : b1F o da = some d) : evE cal (.b1 o a) env = .ok (d, env) := by
  rw [evE, ha]; simp only [R.bind_ok, h]; rfl
theorem PE.b2 {o : B2} (ha : evE cal a env = .ok (da, env)) (hb : evE cal b env = .ok (db, env)) (h : b2F o da db = some d) : evE cal (.b2 o a b) env = .ok (d, env) := by
  rw [evE, ha]; simp only [R.bind_ok]; rw [hb]; simp only [R.bind_ok, h]; rfl
theorem PE.m1 {o : M1} (ha : evE cal a env = .ok (da, env)) (hg : m1G o da = some ()) (hb : evE cal b env = .ok (db, env)) (h : m1F o da db = some d) : evE cal (.m1 o a b) env = .ok (d, env) := by
  rw [evE, ha]; simp only [R.bind_ok, hg, ofOpt]; rw [hb]; simp only [R.bind_ok, h]
theorem PE.nt {x : Bool} (ha : evE cal a env = .ok (.bl x, env)) : evE cal (.nt a) env = .ok (.bl !x, env) := by
  rw [evE, ha]; rfl
theorem PE.isi {one : Bool} {ts : List Ty} (ha : evE cal a env = .ok (da, env)) (h : isScr da = false) : evE cal (.isi a one ts) env = .ok (.bl (ts.any (tyOf da)), env) := by
  rw [evE, ha]; simp only [R.bind_ok, h]; rfl
theorem PE.ite {t : Ts} {x : Bool} (hc : evT cal t env = .ok (x, env)) (ha : evE cal a env = .ok (da, env)) (hb : evE cal b env = .ok (db, env)) (h : d = if x = true then da else db) : evE cal (.ite t a b) env = .ok (d, env) := by
  rw [evE, hc]; simp only [R.bind_ok]; subst h; cases x <;> simp [ha, hb]
theorem PE.chain {o p : Op2} {x y : Bool} (ha : evE cal a env = .ok (da, env)) (hb : evE cal b env = .ok (db, env)) (hc : evE cal c env = .ok (dc, env)) (h1 : opF2 o da db = some (.bl x)) (h2 : opF2 p db dc = some (.bl y)) : evE cal (.chain o p a b c) env = .ok (.bl (x && y), env) := by
  rw [evE, ha]; simp only [R.bind_ok]; rw [hb]; simp only [R.bind_ok, h1, ofOpt, asB]
  cases x with
  | true => simp only [if_true]; rw [hc]; simp only [R.bind_ok, h2, ofOpt, Bool.true_and]
  | false => simp
theorem PEs.nil : evEs cal .nil env = .ok ([], env) := by rw [evEs]
theorem PEs.cons (h : evE cal a env = .ok (da, env)) (g : evEs cal r env = .ok (ds, env)) : evEs cal (.cons a r) env = .ok (da :: ds, env) := by
  rw [evEs, h]; simp only [R.bind_ok]; rw [g]; rfl
theorem PE.lst (h : evEs cal es env = .ok (ds, env)) : evE cal (.lst es) env = .ok (.lst ds, env) := by rw [evE, h]; rfl
theorem PE.tup (h : evEs cal es env = .ok (ds, env)) : evE cal (.tup es) env = .ok (.tup ds, env) := by rw [evE, h]; rfl
def notIo : Ex → Bool
  | .io _ => false
  | _ => true
theorem evAs_cons (h : notIo a = true) : evAs cal (.cons a r) env = (evE cal a env).bind fun p => (evAs cal r p.2).bind fun q => .ok (.inl p.1 :: q.1, q.2) := by
  cases a <;> first | (cases h; done) | rfl
theorem band2 {t : Exs} {x y : Bool} (ha : evE cal a env = .ok (.bl x, env)) (hb : evAnd cal (.cons b t) env = .ok (.bl y, env)) : evAnd cal (.cons a (.cons b t)) env = .ok (.bl (x && y), env) := by
  rw [evAnd]
  · rw [ha]; simp only [R.bind_ok, asB, ofOpt]
    cases x <;> simp [hb]
  · simp
theorem band1 {x : Bool} (ha : evE cal a env = .ok (.bl x, env)) : evAnd cal (.cons a .nil) env = .ok (.bl x, env) := by rw [evAnd, ha]
theorem bor2 {t : Exs} {x y : Bool} (ha : evE cal a env = .ok (.bl x, env)) (hb : evOr cal (.cons b t) env = .ok (.bl y, env)) : evOr cal (.cons a (.cons b t)) env = .ok (.bl (x || y), env) := by
  rw [evOr]
  · rw [ha]; simp only [R.bind_ok, asB, ofOpt]
    cases x <;> simp [hb]
  · simp
theorem bor1 {x : Bool} (ha : evE cal a env = .ok (.bl x, env)) : evOr cal (.cons a .nil) env = .ok (.bl x, env) := by rw [evOr, ha]
theorem PE.band {x : Bool} (h : evAnd cal es env = .ok (.bl x, env)) : evE cal (.band es) env = .ok (.bl x, env) := by rw [evE, h]
theorem PE.bor {x : Bool} (h : evOr cal es env = .ok (.bl x, env)) : evE cal (.bor es) env = .ok (.bl x, env) := by rw [evE, h]
/-! tests -/
theorem PT.val {x : Bool} (h : evE cal a env = .ok (.bl x, env)) : evT cal (.val a) env = .ok (x, env) := by rw [evT, h]; rfl
theorem PT.tru {x : Bool} (h : evE cal a env = .ok (d, env)) (g : truth d = some x) : evT cal (.tru a) env = .ok (x, env) := by rw [evT, h]; simp only [R.bind_ok, g, ofOpt]
theorem PT.nt {t : Ts} {x : Bool} (h : evT cal t env = .ok (x, env)) : evT cal (.nt t) env = .ok (!x, env) := by rw [evT, h]; rfl
theorem PT.and {ts : Tss} {x : Bool} (h : evTs cal ts env = .ok (x, env)) : evT cal (.and ts) env = .ok (x, env) := by rw [evT, h]
theorem PT.or {ts : Tss} {x : Bool} (h : evTo cal ts env = .ok (x, env)) : evT cal (.or ts) env = .ok (x, env) := by rw [evT, h]
theorem PTs.nil : evTs cal .nil env = .ok (true, env) := by rw [evTs]
theorem PTs.one {t : Ts} {x : Bool} (h : evT cal t env = .ok (x, env)) : evTs cal (.cons t .nil) env = .ok (x, env) := by rw [evTs, h]
theorem PTs.two {t u : Ts} {ts : Tss} {x y : Bool} (h : evT cal t env = .ok (x, env)) (g : evTs cal (.cons u ts) env = .ok (y, env)) : evTs cal (.cons t (.cons u ts)) env = .ok (x && y, env) := by
  rw [evTs]
  · rw [h]; cases x <;> simp [g]
  · simp
theorem PTo.one {t : Ts} {x : Bool} (h : evT cal t env = .ok (x, env)) : evTo cal (.cons t .nil) env = .ok (x, env) := by rw [evTo, h]
theorem PTo.two {t u : Ts} {ts : Tss} {x y : Bool} (h : evT cal t env = .ok (x, env)) (g : evTo cal (.cons u ts) env = .ok (y, env)) : evTo cal (.cons t (.cons u ts)) env = .ok (x || y, env) := by
  rw [evTo]
  · rw [h]; cases x <;> simp [g]
  · simp
/-! the same, unfolded one step: chains -/
variable {Q : β → D × Env → Prop} {x : R (D × Env)} {γ : Type} {QB : β → Bool × Env → Prop} {QG : β → γ → Prop}
theorem CE.bin {o : Op2} (h : SR ((evE cal a env).bind fun p => (evE cal b p.2).bind fun q => (ofOpt (opF2 o p.1 q.1)).bind fun d => .ok (d, q.2)) m Q) : SR (evE cal (.bin o a b) env) m Q := by rw [evE]; exact h
theorem CE.un {o : Op1} (h : SR ((evE cal a env).bind fun p => (ofOpt (opF1 o p.1)).bind fun d => .ok (d, p.2)) m Q) : SR (evE cal (.un o a) env) m Q := by rw [evE]; exact h
theorem CE.b1 {o : B1} (h : SR ((evE cal a env).bind fun p => (ofOpt (b1F o p.1)).bind fun d => .ok (d, p.2)) m Q) : SR (evE cal (.b1 o a) env) m Q := by rw [evE]; exact h
theorem CE.b2 {o : B2} (h : SR ((evE cal a env).bind fun p => (evE cal b p.2).bind fun q => (ofOpt (b2F o p.1 q.1)).bind fun d => .ok (d, q.2)) m Q) : SR (evE cal (.b2 o a b) env) m Q := by rw [evE]; exact h
theorem CE.m1 {o : M1} (h : SR ((evE cal a env).bind fun p => (ofOpt (m1G o p.1)).bind fun _ => (evE cal b p.2).bind fun q => (ofOpt (m1F o p.1 q.1)).bind fun d => .ok (d, q.2)) m Q) : SR (evE cal (.m1 o a b) env) m Q := by rw [evE]; exact h
theorem CE.nt (h : SR ((evE cal a env).bind fun p => (ofOpt (asB p.1)).bind fun b => .ok (.bl !b, p.2)) m Q) : SR (evE cal (.nt a) env) m Q := by rw [evE]; exact h
theorem CE.isi {one : Bool} {ts : List Ty} (h : SR ((evE cal a env).bind fun p => if isScr p.1 = true then .bad else .ok (.bl (ts.any (tyOf p.1)), p.2)) m Q) : SR (evE cal (.isi a one ts) env) m Q := by rw [evE]; exact h
theorem CE.lst (h : SR ((evEs cal es env).bind fun p => .ok (.lst p.1, p.2)) m Q) : SR (evE cal (.lst es) env) m Q := by rw [evE]; exact h
theorem CE.tup (h : SR ((evEs cal es env).bind fun p => .ok (.tup p.1, p.2)) m Q) : SR (evE cal (.tup es) env) m Q := by rw [evE]; exact h
theorem CE.call {f : Nat} (h : SR ((evAs cal es env).bind fun p => (resolve p.1 p.2).bind fun ds => (cal f ds).bind fun q => (putA p.1 q.2 p.2).bind fun env' => .ok (q.1, env')) m Q) : SR (evE cal (.call f es) env) m Q := by rw [evE]; exact h
theorem CE.glo {f : Nat} (h : SR ((cal f []).bind fun q => .ok (q.1, env)) m Q) : SR (evE cal (.glo f) env) m Q := by rw [evE]; exact h
theorem CE.ite {t : Ts} (h : SR ((evT cal t env).bind fun p => if p.1 = true then evE cal a p.2 else evE cal b p.2) m Q) : SR (evE cal (.ite t a b) env) m Q := by rw [evE]; exact h
theorem CE.chain {o o' : Op2} (h : SR ((evE cal a env).bind fun p => (evE cal b p.2).bind fun q => (ofOpt (opF2 o p.1 q.1)).bind fun d => (ofOpt (asB d)).bind fun k =>
      if k = true then (evE cal c q.2).bind fun r => (ofOpt (opF2 o' q.1 r.1)).bind fun d => .ok (d, r.2) else .ok (.bl false, q.2)) m Q) : SR (evE cal (.chain o o' a b c) env) m Q := by rw [evE]; exact h
theorem CE.band (h : SR (evAnd cal es env) m Q) : SR (evE cal (.band es) env) m Q := by rw [evE]; exact h
theorem CE.bor (h : SR (evOr cal es env) m Q) : SR (evE cal (.bor es) env) m Q := by rw [evE]; exact h
theorem CE.and1 (h : SR (evE cal a env) m Q) : SR (evAnd cal (.cons a .nil) env) m Q := by rw [evAnd]; exact h
theorem CE.or1 (h : SR (evE cal a env) m Q) : SR (evOr cal (.cons a .nil) env) m Q := by rw [evOr]; exact h
theorem CE.and2 {t : Exs} (h : SR ((evE cal a env).bind fun p => (ofOpt (asB p.1)).bind fun k => if k = true then evAnd cal (.cons b t) p.2 else .ok (.bl false, p.2)) m Q) : SR (evAnd cal (.cons a (.cons b t)) env) m Q := by
  rw [evAnd]
  · exact h
  · simp
theorem CE.or2 {t : Exs} (h : SR ((evE cal a env).bind fun p => (ofOpt (asB p.1)).bind fun k => if k = true then .ok (.bl true, p.2) else evOr cal (.cons b t) p.2) m Q) : SR (evOr cal (.cons a (.cons b t)) env) m Q := by
  rw [evOr]
  · exact h
  · simp
theorem CE.slc {lo hi : Bool} (h : SR ((evE cal a env).bind fun p => (if lo = true then (evE cal b p.2).bind fun q => (ofOpt (asI q.1)).bind fun i => .ok (some i, q.2) else .ok (none, p.2)).bind fun q =>
      (if hi = true then (evE cal c q.2).bind fun r => (ofOpt (asI r.1)).bind fun i => .ok (some i, r.2) else .ok (none, q.2)).bind fun r => (ofOpt (slcF p.1 q.1 r.1)).bind fun d => .ok (d, r.2)) m Q) : SR (evE cal (.slc lo hi a b c) env) m Q := by rw [evE]; exact h
theorem PE.slc {da' : D} {lo hi : Bool} {i j : Option Int} (ha : evE cal a env = .ok (da, env)) (hb : (if lo = true then (evE cal b env).bind fun q => (ofOpt (asI q.1)).bind fun i => .ok (some i, q.2) else .ok (none, env)) = .ok (i, env)) (hc : (if hi = true then (evE cal c env).bind fun q => (ofOpt (asI q.1)).bind fun i => .ok (some i, q.2) else .ok (none, env)) = .ok (j, env)) (h : slcF da i j = some d) : evE cal (.slc lo hi a b c) env = .ok (d, env) := by
  rw [evE, ha]; simp only [R.bind_ok]; rw [hb]; simp only [R.bind_ok]; rw [hc]; simp only [R.bind_ok, h]; rfl
theorem slo {i : Int} (h : evE cal b env = .ok (.int i, env)) : (if true = true then (evE cal b env).bind fun q => (ofOpt (asI q.1)).bind fun i => .ok (some i, q.2) else .ok (none, env)) = .ok (some i, env) := by rw [h]; rfl
theorem slm {β : Type} {m : R β} {P : β → D × Env → Prop} {out : β → Option Int × Env} (h : SR (evE cal b env) m P) (g : ∀ v q, P v q → ∃ i e, q = (.int i, e) ∧ (some i, e) = out v) : SE (if true = true then (evE cal b env).bind fun q => (ofOpt (asI q.1)).bind fun i => .ok (some i, q.2) else .ok (none, env)) m out := by
  simp only [if_true]
  cases m with
  | ok v => obtain ⟨q, e, p⟩ := h; obtain ⟨i, e', rfl, h2⟩ := g v q p; rw [e]; exact ⟨_, rfl, h2⟩
  | exc c d => have h : evE cal b env = .exc c d := h; rw [h]; rfl
  | bad => trivial
/-! lists of arguments, in a chain -/
theorem CA.nil {F : List (Sum D Nat) × Env → R γ} (h : SR (F ([], env)) m QG) : SR ((evAs cal .nil env).bind F) m QG := by rw [evAs]; exact h
theorem CA.cons {F : List (Sum D Nat) × Env → R γ} (hn : notIo a = true) (h : SR ((evE cal a env).bind fun p => (evAs cal r p.2).bind fun q => F (.inl p.1 :: q.1, q.2)) m QG) : SR ((evAs cal (.cons a r) env).bind F) m QG := by
  rw [evAs_cons hn, R.bind_assoc]
  simpa only [R.bind_assoc, R.bind_ok] using h
theorem CA.io {i : Nat} {F : List (Sum D Nat) × Env → R γ} (h : SR ((getv i env).bind fun _ => (evAs cal r env).bind fun q => F (.inr i :: q.1, q.2)) m QG) : SR ((evAs cal (.cons (.io i) r) env).bind F) m QG := by
  rw [evAs, R.bind_assoc]
  simpa only [R.bind_assoc, R.bind_ok] using h
theorem CEs.nil {F : List D × Env → R γ} (h : SR (F ([], env)) m QG) : SR ((evEs cal .nil env).bind F) m QG := by rw [evEs]; exact h
theorem CEs.cons {F : List D × Env → R γ} (h : SR ((evE cal a env).bind fun p => (evEs cal r p.2).bind fun q => F (p.1 :: q.1, q.2)) m QG) : SR ((evEs cal (.cons a r) env).bind F) m QG := by
  rw [evEs, R.bind_assoc]
  simpa only [R.bind_assoc, R.bind_ok] using h
/-! tests, in a chain -/
theorem CT.val {Q : β → Bool × Env → Prop} (h : SR ((evE cal a env).bind fun p => (ofOpt (asB p.1)).bind fun b => .ok (b, p.2)) m Q) : SR (evT cal (.val a) env) m Q := by rw [evT]; exact h
theorem CT.tru {Q : β → Bool × Env → Prop} (h : SR ((evE cal a env).bind fun p => (ofOpt (truth p.1)).bind fun b => .ok (b, p.2)) m Q) : SR (evT cal (.tru a) env) m Q := by rw [evT]; exact h
theorem CT.nt {t : Ts} (h : SR ((evT cal t env).bind fun p => .ok (!p.1, p.2)) m QB) : SR (evT cal (.nt t) env) m QB := by rw [evT]; exact h
theorem CT.and {ts : Tss} (h : SR (evTs cal ts env) m QB) : SR (evT cal (.and ts) env) m QB := by rw [evT]; exact h
theorem CT.or {ts : Tss} (h : SR (evTo cal ts env) m QB) : SR (evT cal (.or ts) env) m QB := by rw [evT]; exact h
theorem CTs.one {t : Ts} (h : SR (evT cal t env) m QB) : SR (evTs cal (.cons t .nil) env) m QB := by rw [evTs]; exact h
theorem CTs.two {t u : Ts} {ts : Tss} (h : SR ((evT cal t env).bind fun p => if p.1 = true then evTs cal (.cons u ts) p.2 else .ok (false, p.2)) m QB) : SR (evTs cal (.cons t (.cons u ts)) env) m QB := by
  rw [evTs]
  · exact h
  · simp
theorem CTo.one {t : Ts} (h : SR (evT cal t env) m QB) : SR (evTo cal (.cons t .nil) env) m QB := by rw [evTo]; exact h
theorem CTo.two {t u : Ts} {ts : Tss} (h : SR ((evT cal t env).bind fun p => if p.1 = true then .ok (true, p.2) else evTo cal (.cons u ts) p.2) m QB) : SR (evTo cal (.cons t (.cons u ts)) env) m QB := by
  rw [evTo]
  · exact h
  · simp
/-- if, with the outcome known by a Bool -/
theorem SR.ifb {k : Bool} {x y : R γ} {m1 m2 : R β} (h1 : SR x m1 QG) (h2 : SR y m2 QG) : SR (if k = true then x else y) (if k = true then m1 else m2) QG := by cases k <;> assumption
end

/-! ### walks and comprehensions -/
section
variable {cal : Cal} {env env1 env2 : Env} {a b c : Ex} {α β γ σ : Type}
theorem rngL_eq (lo hi : Int) : rngL lo hi = (rangeI lo hi).map eI := by simp [rngL, rangeI]
theorem rngD_eq (hi lo : Int) : rngD hi lo = (rangeD hi lo).map eI := by simp [rngD, rangeD]
theorem W.rng1 {n : Int} (h : evE cal a env = .ok (.int n, env)) : SE (evW cal (.rng1 a) env) (R.rng 0 n) fun xs => (xs.map eI, env) := by
  rw [evW, h]; unfold R.rng
  simp only [R.bind_ok]
  refine SR.grd fun c => ?_
  rw [if_pos c, rngL_eq]
  exact SR.ok rfl
theorem W.rng2 {i j : Int} (h : evE cal a env = .ok (.int i, env)) (g : evE cal b env = .ok (.int j, env)) : SE (evW cal (.rng2 a b) env) (R.rng i j) fun xs => (xs.map eI, env) := by
  rw [evW, h]; unfold R.rng
  simp only [R.bind_ok]
  rw [g]
  simp only [R.bind_ok]
  refine SR.grd fun c => ?_
  rw [if_pos c, rngL_eq]
  exact SR.ok rfl
theorem W.rng3 {i j : Int} (h : evE cal a env = .ok (.int i, env)) (g : evE cal b env = .ok (.int j, env)) (k : evE cal c env = .ok (.int (-1), env)) : SE (evW cal (.rng3 a b c) env) (R.rngDn i j) fun xs => (xs.map eI, env) := by
  rw [evW, h]; unfold R.rngDn
  simp only [R.bind_ok]
  rw [g]
  simp only [R.bind_ok]
  rw [k]
  simp only [R.bind_ok]
  refine SR.grd fun c => ?_
  rw [if_pos (by rw [c]; rfl), rngD_eq]
  exact SR.ok rfl
theorem W.itL {e : α → D} {xs : List α} (h : evE cal a env = .ok (eL e xs, env)) : SE (evW cal (.it a) env) (.ok xs) fun xs => (xs.map e, env) := by
  rw [evW, h]; exact SR.ok rfl
theorem W.itQ {e : α → D} {xs : List α} (h : evE cal a env = .ok (eQ e xs, env)) : SE (evW cal (.it a) env) (.ok xs) fun xs => (xs.map e, env) := by
  rw [evW, h]; exact SR.ok rfl
theorem W.itSC {xs : List Int} (h : evE cal a env = .ok (.scr xs, env)) : SE (evW cal (.it a) env) (.ok xs) fun xs => (xs.map eI, env) := by
  rw [evW, h]; exact SR.ok rfl
theorem W.itA {d : D} (h : evE cal a env = .ok (d, env)) : SE (evW cal (.it a) env) (ofOpt (itemsOf d)) fun xs => (xs.map eA, env) := by
  rw [evW, h]; simp only [R.bind_ok]
  cases itemsOf d with
  | none => trivial
  | some ds => exact ⟨_, rfl, by simp⟩
theorem pairUp_eq (e : α → D) (f : β → D) : ∀ (xs : List α) (ys : List β), pairUp (xs.map e) (ys.map f) = (xs.zip ys).map (eP2 e f)
  | [], _ => rfl
  | _ :: _, [] => rfl
  | x :: xs, y :: ys => by simp [pairUp, eP2, pairUp_eq e f xs ys]
theorem W.zip {e : α → D} {f : β → D} {xs : List α} {ys : List β} (h : evE cal a env = .ok (eL e xs, env)) (g : evE cal b env = .ok (eL f ys, env)) : SE (evW cal (.zip a b) env) (.ok (xs.zip ys)) fun xs => (xs.map (eP2 e f), env) := by
  rw [evW, h]; simp only [R.bind_ok]; rw [g]
  exact SR.of rfl (by simp only [pairUp_eq])
def enumI (i : Nat) : List α → List (Int × α)
  | [] => []
  | x :: xs => ((i : Int), x) :: enumI (i + 1) xs
theorem enum_eq (e : α → D) : ∀ (xs : List α) (i : Nat), enumL i (xs.map e) = (enumI i xs).map (eP2 eI e)
  | [], _ => rfl
  | x :: xs, i => by simp [enumL, enumI, eP2, enum_eq e xs (i + 1)]
theorem W.enum {e : α → D} {xs : List α} (h : evE cal a env = .ok (eL e xs, env)) : SE (evW cal (.enum a) env) (.ok (enumI 0 xs)) fun xs => (xs.map (eP2 eI e), env) := by
  rw [evW, h]
  exact SR.of rfl (by simp only [enum_eq])
/-- a walk over what a step gives -/
theorem W.itm {e : α → D} {m : R (List α)} (h : SE (evE cal a env) m fun xs => (eL e xs, env)) : SE (evW cal (.it a) env) m fun xs => (xs.map e, env) := by
  rw [evW]
  exact SR.last h fun xs => ⟨_, rfl, rfl⟩
theorem W.itmQ {e : α → D} {m : R (List α)} (h : SE (evE cal a env) m fun xs => (eQ e xs, env)) : SE (evW cal (.it a) env) m fun xs => (xs.map e, env) := by
  rw [evW]
  exact SR.last h fun xs => ⟨_, rfl, rfl⟩
theorem W.itmA {m : R D} (h : SE (evE cal a env) m fun xs => (xs, env)) : SE (evW cal (.it a) env) (m.bind fun d => ofOpt (itemsOf d)) fun xs => (xs.map eA, env) := by
  rw [evW]
  refine SR.bind h fun d => ?_
  cases itemsOf d with
  | none => trivial
  | some ds => exact ⟨_, rfl, by simp⟩
theorem W.rng1m {m : R Int} (h : SE (evE cal a env) m fun n => (eI n, env)) : SE (evW cal (.rng1 a) env) (m.bind fun n => R.rng 0 n) fun xs => (xs.map eI, env) := by
  rw [evW]
  refine SR.bind h fun n => ?_
  unfold R.rng
  refine SR.grd fun c => ?_
  show SR (if rngOk 0 n = true then _ else _) _ _
  rw [if_pos c, rngL_eq]
  exact SR.ok rfl
theorem W.rng2m {m1 m2 : R Int} (h : SE (evE cal a env) m1 fun n => (eI n, env)) (g : SE (evE cal b env) m2 fun n => (eI n, env)) : SE (evW cal (.rng2 a b) env) (m1.bind fun i => m2.bind fun j => R.rng i j) fun xs => (xs.map eI, env) := by
  rw [evW]
  refine SR.bind h fun n => SR.bind g fun k => ?_
  unfold R.rng
  refine SR.grd fun c => ?_
  show SR (if rngOk n k = true then _ else _) _ _
  rw [if_pos c, rngL_eq]
  exact SR.ok rfl
theorem W.zipm {e : α → D} {f : β → D} {m1 : R (List α)} {m2 : R (List β)} (h : SE (evE cal a env) m1 fun l => (eL e l, env)) (g : SE (evE cal b env) m2 fun l => (eL f l, env)) : SE (evW cal (.zip a b) env) (m1.bind fun i => m2.bind fun j => .ok (i.zip j)) fun xs => (xs.map (eP2 e f), env) := by
  rw [evW]
  refine SR.bind h fun n => SR.bind g fun k => ?_
  exact SR.of rfl (by simp only [pairUp_eq])
/-- what one item of a comprehension gives -/
theorem lc_fm {un : Env → Env} {bd : D → Env → R Env} {c : Env → R (Bool × Env)} {e : Env → R (D × Env)} {g : α → D} {enc : β → D} {h : α → R (Option β)} {U : Env} (hh : ∀ x, ∃ E, bd (g x) U = .ok E ∧ SR (c E) (h x) fun o p => p.2 = E ∧ (o.isSome = p.1) ∧ (∀ y, o = some y → e E = .ok (enc y, E))) (hu : ∀ x E, bd (g x) U = .ok E → un E = U) : ∀ xs : List α, SE (lcL un bd c e (xs.map g) U) (R.fm h xs) fun ys => (ys.map enc, U)
  | [] => SR.ok rfl
  | x :: xs => by
    obtain ⟨E, h1, h2⟩ := hh x
    have ih := lc_fm hh hu xs
    have hU := hu x E h1
    simp only [List.map_cons, lcL, h1, R.fm]
    cases hx : h x with
    | bad => trivial
    | exc _ _ => trivial
    | ok o =>
      rw [hx] at h2
      obtain ⟨⟨p1, p2⟩, q1, q2, q3, q4⟩ := h2
      cases q2
      rw [q1]
      cases o with
      | none =>
        cases q3
        simp only [hU]
        exact ih
      | some y =>
        cases q3
        simp only [q4 y rfl, hU]
        cases hf : R.fm h xs with
        | bad => trivial
        | exc _ _ => trivial
        | ok ys =>
          rw [hf] at ih
          obtain ⟨g, g1, g2⟩ := ih
          rw [g1, g2]
          exact SR.ok rfl
/-- general: cond and element by chains -/
theorem lc_gen {un : Env → Env} {bd : D → Env → R Env} {c : Env → R (Bool × Env)} {e : Env → R (D × Env)} {g : α → D} {enc : β → D} {q : α → R Bool} {f : α → R β} {U : Env} {E : α → Env} (h1 : ∀ x, bd (g x) U = .ok (E x)) (h2 : ∀ x, SE (c (E x)) (q x) fun b => (b, E x)) (h3 : ∀ x, SE (e (E x)) (f x) fun y => (enc y, E x)) (hu : ∀ x, un (E x) = U) : ∀ xs : List α, SE (lcL un bd c e (xs.map g) U) (R.fm (fun x => (q x).bind fun b => if b = true then (f x).bind fun y => .ok (some y) else .ok none) xs) fun ys => (ys.map enc, U)
  | [] => SR.ok rfl
  | x :: xs => by
    have ih := lc_gen h1 h2 h3 hu xs
    have a2 := h2 x
    have a3 := h3 x
    simp only [List.map_cons, lcL, h1, R.fm]
    cases hx : q x with
    | bad => trivial
    | exc _ _ => trivial
    | ok b =>
      rw [hx] at a2
      obtain ⟨p, q1, q2⟩ := a2
      rw [q1, q2]
      cases b with
      | false =>
        simp only [R.bind_ok, hu]
        exact ih
      | true =>
        simp only [R.bind_ok, if_true]
        cases hf : f x with
        | bad => trivial
        | exc _ _ => trivial
        | ok y =>
          rw [hf] at a3
          obtain ⟨p, q1, q2⟩ := a3
          rw [q1, q2]
          simp only [R.bind_ok, hu]
          cases hg : R.fm (fun x => (q x).bind fun b => if b = true then (f x).bind fun y => .ok (some y) else .ok none) xs with
          | bad => trivial
          | exc _ _ => trivial
          | ok ys =>
            rw [hg] at ih
            obtain ⟨p, g1, g2⟩ := ih
            rw [g1, g2]
            exact SR.ok rfl
theorem fm_pure (q : α → Bool) (f : α → β) : ∀ xs : List α, R.fm (fun x => (R.ok (q x)).bind fun b => if b = true then (R.ok (f x)).bind fun y => .ok (some y) else .ok none) xs = .ok ((xs.filter q).map f)
  | [] => rfl
  | x :: xs => by
    have ih := fm_pure q f xs
    simp only [R.bind_ok] at ih ⊢
    cases h : q x <;> simp only [R.fm, h, ih, List.filter_cons, if_true, Bool.false_eq_true, if_false, List.map_cons]
theorem fm_map (f : α → R β) : ∀ xs : List α, R.fm (fun x => (R.ok true).bind fun b => if b = true then (f x).bind fun y => .ok (some y) else .ok none) xs = R.mapM f xs
  | [] => rfl
  | x :: xs => by
    have ih := fm_map f xs
    simp only [R.fm, R.mapM, R.bind_ok, if_true] at ih ⊢
    rw [ih]
    cases f x <;> rfl
/-- the comprehension as an expression -/
theorem CE.lc {g : Tg} {w : Wk} {c : Tss} {e : Ex} {gE : α → D} {enc : β → D} {q : α → R Bool} {f : α → R β} {mw : R (List α)} {U : Env} {E : α → Env} (hw : SE (evW cal w env) mw fun xs => (xs.map gE, env)) (hU : unset (tgs g) env = U) (h1 : ∀ x, bindT g (gE x) U = .ok (E x)) (h2 : ∀ x, SE (evTs cal c (E x)) (q x) fun b => (b, E x)) (h3 : ∀ x, SE (evE cal e (E x)) (f x) fun y => (enc y, E x)) (hu : ∀ x, unset (tgs g) (E x) = U) (hr : reset (tgs g) env U = env) :
    SE (evE cal (.lc g w c e) env) (mw.bind fun xs => (R.fm (fun x => (q x).bind fun b => if b = true then (f x).bind fun y => .ok (some y) else .ok none) xs).bind R.sz) fun ys => (eL enc ys, env) := by
  rw [evE]
  refine SR.bind hw fun xs => ?_
  simp only
  refine SR.bind (out := fun ys => (ys.map enc, U)) (by rw [hU]; exact lc_gen h1 h2 h3 hu xs) fun ys => ?_
  unfold R.sz
  refine SR.grd fun c => ?_
  rw [if_pos (by simpa using c), hr]
  exact SR.ok rfl
theorem CE.lcm {g : Tg} {w : Wk} {e : Ex} {gE : α → D} {enc : β → D} {f : α → R β} {mw : R (List α)} {U : Env} {E : α → Env} (hw : SE (evW cal w env) mw fun xs => (xs.map gE, env)) (hU : unset (tgs g) env = U) (h1 : ∀ x, bindT g (gE x) U = .ok (E x)) (h3 : ∀ x, SE (evE cal e (E x)) (f x) fun y => (enc y, E x)) (hu : ∀ x, unset (tgs g) (E x) = U) (hr : reset (tgs g) env U = env) :
    SE (evE cal (.lc g w .nil e) env) (mw.bind fun xs => (R.mapM f xs).bind R.sz) fun ys => (eL enc ys, env) := by
  have := CE.lc (cal := cal) (q := fun _ => .ok true) (c := .nil) hw hU h1 (fun x => SR.of PTs.nil rfl) h3 hu hr
  simp only [fm_map] at this
  exact this
theorem CE.lcp {g : Tg} {w : Wk} {c : Tss} {e : Ex} {gE : α → D} {enc : β → D} {q : α → Bool} {f : α → β} {mw : R (List α)} {U : Env} {E : α → Env} (hw : SE (evW cal w env) mw fun xs => (xs.map gE, env)) (hU : unset (tgs g) env = U) (h1 : ∀ x, bindT g (gE x) U = .ok (E x)) (h2 : ∀ x, evTs cal c (E x) = .ok (q x, E x)) (h3 : ∀ x, evE cal e (E x) = .ok (enc (f x), E x)) (hu : ∀ x, unset (tgs g) (E x) = U) (hr : reset (tgs g) env U = env) :
    SE (evE cal (.lc g w c e) env) (mw.bind fun xs => R.sz ((xs.filter q).map f)) fun ys => (eL enc ys, env) := by
  have := CE.lc (cal := cal) (q := fun x => .ok (q x)) (f := fun x => .ok (f x)) (enc := enc) hw hU h1 (fun x => SR.of (h2 x) rfl) (fun x => SR.of (h3 x) rfl) hu hr
  have hf : ∀ xs, R.fm (fun x => (R.ok (q x)).bind fun b => if b = true then (R.ok (f x)).bind fun y => .ok (some y) else .ok none) xs = .ok ((xs.filter q).map f) := fm_pure q f
  have hg : (mw.bind fun xs => (R.fm (fun x => (R.ok (q x)).bind fun b => if b = true then (R.ok (f x)).bind fun y => .ok (some y) else .ok none) xs).bind R.sz) = mw.bind fun xs => R.sz ((xs.filter q).map f) := by
    congr 1; funext xs; rw [hf]; rfl
  rw [hg] at this
  exact this
theorem flt_tt {α : Type} : ∀ xs : List α, xs.filter (fun _ => true) = xs
  | [] => rfl
  | x :: xs => by rw [List.filter_cons, if_pos rfl, flt_tt xs]
theorem CE.lcmp {g : Tg} {w : Wk} {e : Ex} {gE : α → D} {enc : β → D} {f : α → β} {mw : R (List α)} {U : Env} {E : α → Env} (hw : SE (evW cal w env) mw fun xs => (xs.map gE, env)) (hU : unset (tgs g) env = U) (h1 : ∀ x, bindT g (gE x) U = .ok (E x)) (h3 : ∀ x, evE cal e (E x) = .ok (enc (f x), E x)) (hu : ∀ x, unset (tgs g) (E x) = U) (hr : reset (tgs g) env U = env) :
    SE (evE cal (.lc g w .nil e) env) (mw.bind fun xs => R.sz (xs.map f)) fun ys => (eL enc ys, env) := by
  have := CE.lcp (cal := cal) (q := fun _ => true) (c := .nil) hw hU h1 (fun x => PTs.nil) h3 hu hr
  simp only [flt_tt] at this
  exact this
/-- a comprehension whose items change slots -/
theorem lc_st {un : Env → Env} {bd : D → Env → R Env} {e : Env → R (D × Env)} {g : α → D} {enc : β → D} {f : α → σ → R (β × σ)} {es : σ → Env} {E : α → σ → Env} (h1 : ∀ x s, bd (g x) (es s) = .ok (E x s)) (h3 : ∀ x s, SE (e (E x s)) (f x s) fun p => (enc p.1, E x p.2)) (hu : ∀ x s, un (E x s) = es s) : ∀ (xs : List α) (s : σ), SE (lcL un bd (fun env => .ok (true, env)) e (xs.map g) (es s)) (R.mapS f xs s) fun p => (p.1.map enc, es p.2)
  | [], s => SR.ok rfl
  | x :: xs, s => by
    have a3 := h3 x s
    simp only [List.map_cons, lcL, h1, R.mapS]
    cases hf : f x s with
    | bad => trivial
    | exc _ _ => trivial
    | ok y =>
      obtain ⟨y, s1⟩ := y
      rw [hf] at a3
      obtain ⟨p, q1, q2⟩ := a3
      have ih := lc_st h1 h3 hu xs s1
      rw [q1, q2]
      simp only [hu]
      cases hg : R.mapS f xs s1 with
      | bad => trivial
      | exc _ _ => trivial
      | ok z =>
        obtain ⟨ys, s2⟩ := z
        rw [hg] at ih
        obtain ⟨p, g1, g2⟩ := ih
        rw [g1, g2]
        exact SR.ok rfl
theorem CE.lcs {g : Tg} {w : Wk} {e : Ex} {gE : α → D} {enc : β → D} {f : α → σ → R (β × σ)} {mw : R (List α)} {es : σ → Env} {eo : σ → Env} {E : α → σ → Env} (s : σ) (hw : SE (evW cal w env) mw fun xs => (xs.map gE, env)) (hU : unset (tgs g) env = es s) (h1 : ∀ x s, bindT g (gE x) (es s) = .ok (E x s)) (h3 : ∀ x s, SE (evE cal e (E x s)) (f x s) fun p => (enc p.1, E x p.2)) (hu : ∀ x s, unset (tgs g) (E x s) = es s) (hr : ∀ s', reset (tgs g) env (es s') = eo s') :
    SE (evE cal (.lc g w .nil e) env) (mw.bind fun xs => (R.mapS f xs s).bind fun p => (R.sz p.1).bind fun l => .ok (l, p.2)) fun p => (eL enc p.1, eo p.2) := by
  rw [evE]
  refine SR.bind hw fun xs => ?_
  have hc : evTs cal .nil = fun env => .ok (true, env) := funext fun env => PTs.nil
  simp only [hc]
  refine SR.bind (out := fun p => (p.1.map enc, es p.2)) (by rw [hU]; exact lc_st h1 h3 hu xs s) fun p => ?_
  unfold R.sz
  by_cases c : p.1.length ≤ sizeLine
  · rw [if_pos c, if_pos (by simpa using c), hr]
    exact SR.ok rfl
  · rw [if_neg c]; trivial
end

/-! ### statements -/
def andB (x : R Fl) (k : Env → R Fl) : R Fl := x.bind fun f => match f with
  | .nx e => k e
  | .rt d e => .ok (.rt d e)
  | .bk e => .ok (.bk e)
  | .ct e => .ok (.ct e)
theorem andB_nx (x : R Fl) : andB x (fun e => .ok (.nx e)) = x := by
  cases x with
  | ok f => cases f <;> rfl
  | exc _ _ => rfl
  | bad => rfl
theorem andB_andB (x : R Fl) (k l : Env → R Fl) : andB (andB x k) l = andB x fun e => andB (k e) l := by
  cases x with
  | ok f => cases f <;> rfl
  | exc _ _ => rfl
  | bad => rfl
section
variable {cal : Cal} {fuel : Nat} {env env1 env2 env3 : Env} {s : Sm} {r A B : Sms} {k : Env → R Fl} {β ρ σ α γ : Type} {m : R β} {Q : β → Fl → Prop} {e : Ex} {d : D}
theorem evB_and : evB cal fuel (.cons s r) env = andB (evS cal fuel s env) (evB cal fuel r) := by
  rw [evB]; rfl
theorem G.start (h : SR (andB (evB cal fuel r env) (fun e => .ok (.nx e))) m Q) : SR (evB cal fuel r env) m Q := by rwa [andB_nx] at h
theorem G.nil (h : SR (k env) m Q) : SR (andB (evB cal fuel .nil env) k) m Q := by rw [evB]; exact h
theorem andB_cons : andB (evB cal fuel (.cons s r) env) k = andB (evS cal fuel s env) fun e => andB (evB cal fuel r e) k := by rw [evB_and, andB_andB]
theorem G.nx (h : evS cal fuel s env = .ok (.nx env1)) (g : SR (andB (evB cal fuel r env1) k) m Q) : SR (andB (evB cal fuel (.cons s r) env) k) m Q := by
  rw [andB_cons, h]; exact g
theorem G.kill {i : Nat} (h : env.set i none = env1) (g : SR (andB (evB cal fuel r env1) k) m Q) : SR (andB (evB cal fuel (.cons (.kill i) r) env) k) m Q := by
  refine G.nx ?_ g
  rw [evS, h]
theorem G.pass (g : SR (andB (evB cal fuel r env) k) m Q) : SR (andB (evB cal fuel (.cons .pass r) env) k) m Q := G.nx (by rw [evS]) g
theorem G.asg {g : Tg} (he : evE cal e env = .ok (d, env1)) (hb : bindT g d env1 = .ok env2) (gg : SR (andB (evB cal fuel r env2) k) m Q) : SR (andB (evB cal fuel (.cons (.asg g e) r) env) k) m Q :=
  G.nx (by rw [evS, he]; simp only [R.bind_ok, hb]) gg
theorem G.asgm {g : Tg} {m1 : R α} {out : α → D × Env} {k' : α → R β} {e2 : α → Env} (he : SE (evE cal e env) m1 out) (hb : ∀ a, bindT g (out a).1 (out a).2 = .ok (e2 a)) (gg : ∀ a, SR (andB (evB cal fuel r (e2 a)) k) (k' a) Q) : SR (andB (evB cal fuel (.cons (.asg g e) r) env) k) (m1.bind k') Q := by
  rw [andB_cons, evS, andB, R.bind_assoc]
  refine SR.bind he fun a => ?_
  rw [R.bind_assoc, hb a]
  exact gg a
/-- a step that gives a state -/
theorem G.stm {m1 : R α} {k' : α → R β} {e2 : α → Env} (he : SE (evS cal fuel s env) m1 fun a => .nx (e2 a)) (g : ∀ a, SR (andB (evB cal fuel r (e2 a)) k) (k' a) Q) : SR (andB (evB cal fuel (.cons s r) env) k) (m1.bind k') Q := by
  rw [andB_cons]
  exact SR.bind he fun a => g a
theorem G.ret {b : β} (he : evE cal e env = .ok (d, env1)) (q : Q b (.rt d env1)) : SR (andB (evB cal fuel (.cons (.ret e) r) env) k) (.ok b) Q := by
  rw [andB_cons, evS, he]; exact SR.ok q
theorem G.retm {m1 : R α} {w : α → β} {out : α → D × Env} (he : SE (evE cal e env) m1 out) (q : ∀ a, Q (w a) (.rt (out a).1 (out a).2)) : SR (andB (evB cal fuel (.cons (.ret e) r) env) k) (m1.bind fun a => .ok (w a)) Q := by
  rw [andB_cons, evS, andB, R.bind_assoc]
  refine SR.bind he fun a => ?_
  exact SR.ok (q a)
theorem G.retm' {out : β → D × Env} (he : SE (evE cal e env) m out) (q : ∀ a, Q a (.rt (out a).1 (out a).2)) : SR (andB (evB cal fuel (.cons (.ret e) r) env) k) m Q := by
  have := G.retm (cal := cal) (fuel := fuel) (r := r) (k := k) (w := fun a => a) (Q := Q) he q
  have hh : m.bind (fun a => .ok a) = m := R.bind_ok_right m
  rwa [hh] at this
theorem G.retN {b : β} (q : Q b (.rt .non env)) : SR (andB (evB cal fuel (.cons .retN r) env) k) (.ok b) Q := by
  rw [andB_cons, evS]; exact SR.ok q
theorem G.brk {b : β} (q : Q b (.bk env)) : SR (andB (evB cal fuel (.cons .brk r) env) k) (.ok b) Q := by
  rw [andB_cons, evS]; exact SR.ok q
theorem G.cnt {b : β} (q : Q b (.ct env)) : SR (andB (evB cal fuel (.cons .cnt r) env) k) (.ok b) Q := by
  rw [andB_cons, evS]; exact SR.ok q
/-- if, both ways with the rest behind -/
theorem G.ite {c : Ts} {b : Bool} {mA mB : R β} (hc : evT cal c env = .ok (b, env)) (hA : SR (andB (evB cal fuel A env) fun e => andB (evB cal fuel r e) k) mA Q) (hB : SR (andB (evB cal fuel B env) fun e => andB (evB cal fuel r e) k) mB Q) : SR (andB (evB cal fuel (.cons (.ite c A B) r) env) k) (if b = true then mA else mB) Q := by
  rw [andB_cons, evS, hc]
  cases b <;> simpa [andB] using by assumption
theorem G.item {c : Ts} {mc : R Bool} {mA mB : R β} (hc : SE (evT cal c env) mc fun b => (b, env)) (hA : SR (andB (evB cal fuel A env) fun e => andB (evB cal fuel r e) k) mA Q) (hB : SR (andB (evB cal fuel B env) fun e => andB (evB cal fuel r e) k) mB Q) : SR (andB (evB cal fuel (.cons (.ite c A B) r) env) k) (mc.bind fun b => if b = true then mA else mB) Q := by
  rw [andB_cons, evS, andB, R.bind_assoc]
  refine SR.bind hc fun b => ?_
  cases b <;> simpa [andB] using by assumption
theorem G.itemx {c : Ts} {mc : R α} {bo : α → Bool} {eo : α → Env} {mA mB : α → R β} (hc : SE (evT cal c env) mc fun a => (bo a, eo a)) (hA : ∀ a, SR (andB (evB cal fuel A (eo a)) fun e => andB (evB cal fuel r e) k) (mA a) Q) (hB : ∀ a, SR (andB (evB cal fuel B (eo a)) fun e => andB (evB cal fuel r e) k) (mB a) Q) : SR (andB (evB cal fuel (.cons (.ite c A B) r) env) k) (mc.bind fun a => if bo a = true then mA a else mB a) Q := by
  rw [andB_cons, evS, andB, R.bind_assoc]
  refine SR.bind hc fun a => ?_
  have h1 := hA a
  have h2 := hB a
  simp only
  cases bo a <;> simpa [andB] using by assumption
/-- if, both ways to one state -/
theorem G.join {c : Ts} {mj : R σ} {kk : σ → R β} {es : σ → Env} (h : SR (evS cal fuel (.ite c A B) env) mj fun s f => f = .nx (es s)) (g : ∀ s, SR (andB (evB cal fuel r (es s)) k) (kk s) Q) : SR (andB (evB cal fuel (.cons (.ite c A B) r) env) k) (mj.bind kk) Q := G.stm h g
theorem J.ite {c : Ts} {b : Bool} {mA mB : R β} (hc : evT cal c env = .ok (b, env)) (hA : SR (evB cal fuel A env) mA Q) (hB : SR (evB cal fuel B env) mB Q) : SR (evS cal fuel (.ite c A B) env) (if b = true then mA else mB) Q := by
  rw [evS, hc]; cases b <;> simpa using by assumption
theorem J.item {c : Ts} {mc : R Bool} {mA mB : R β} (hc : SE (evT cal c env) mc fun b => (b, env)) (hA : SR (evB cal fuel A env) mA Q) (hB : SR (evB cal fuel B env) mB Q) : SR (evS cal fuel (.ite c A B) env) (mc.bind fun b => if b = true then mA else mB) Q := by
  rw [evS]
  refine SR.bind hc fun b => ?_
  cases b <;> simpa using by assumption
theorem J.itemx {c : Ts} {mc : R α} {bo : α → Bool} {eo : α → Env} {mA mB : α → R β} (hc : SE (evT cal c env) mc fun a => (bo a, eo a)) (hA : ∀ a, SR (evB cal fuel A (eo a)) (mA a) Q) (hB : ∀ a, SR (evB cal fuel B (eo a)) (mB a) Q) : SR (evS cal fuel (.ite c A B) env) (mc.bind fun a => if bo a = true then mA a else mB a) Q := by
  rw [evS]
  refine SR.bind hc fun a => ?_
  have h1 := hA a
  have h2 := hB a
  simp only
  cases bo a <;> simpa using by assumption
/-- ends of a part: fallen through, or given back -/
def FQ (es : σ → Env) (q : ρ → Fl → Prop) : Fw σ ρ → Fl → Prop
  | .nx s, f => f = .nx (es s) ∨ f = .ct (es s)
  | .bk s, f => f = .bk (es s)
  | .rt r, f => (∃ d e, f = .rt d e) ∧ q r f
/-- the same, in a part that is no loop's: no continue -/
def JQ (es : σ → Env) (q : ρ → Fl → Prop) : Fw σ ρ → Fl → Prop
  | .nx s, f => f = .nx (es s)
  | .bk s, f => False
  | .rt r, f => (∀ e, f ≠ .nx e) ∧ q r f
theorem G.joinW {c : Ts} {mj : R (Fw σ ρ)} {kk bb : σ → R β} {wr : ρ → R β} {es : σ → Env} {q : ρ → Fl → Prop} (h : SR (evS cal fuel (.ite c A B) env) mj (JQ es q)) (g : ∀ s, SR (andB (evB cal fuel r (es s)) k) (kk s) Q) (hr : ∀ r f, q r f → SR (.ok f) (wr r) Q) : SR (andB (evB cal fuel (.cons (.ite c A B) r) env) k) (R.thenW mj kk bb wr) Q := by
  rw [andB_cons]
  refine SR.bindm h fun w f hf => ?_
  cases w with
  | nx s => have hf : f = _ := hf; subst hf; exact g s
  | bk s => exact hf.elim
  | rt r =>
    obtain ⟨hf, hq⟩ := hf
    cases f with
    | nx e => exact absurd rfl (hf e)
    | rt d e => exact hr r _ hq
    | bk e => exact hr r _ hq
    | ct e => exact hr r _ hq
theorem for_ok {bd : D → Env → R Env} {b : Env → R Fl} {g : α → D} {es : σ → Env} {f : α → σ → R σ} (h : ∀ x s, SR ((bd (g x) (es s)).bind b) (f x s) fun s' fl => fl = .nx (es s') ∨ fl = .ct (es s')) : ∀ (xs : List α) (s : σ), SE (forL bd b (xs.map g) (es s)) (R.for_ f xs s) fun s => .nx (es s)
  | [], s => SR.ok rfl
  | x :: xs, s => by
    have e : forL bd b (List.map g (x :: xs)) (es s) = ((bd (g x) (es s)).bind b).bind fun f => match f with
      | .nx e => forL bd b (xs.map g) e
      | .ct e => forL bd b (xs.map g) e
      | .bk e => .ok (.nx e)
      | .rt d e => .ok (.rt d e) := by rw [R.bind_assoc]; rfl
    rw [e]
    refine SR.bindm (h x s) fun s' fl hf => ?_
    rcases hf with rfl | rfl
    · exact for_ok h xs s'
    · exact for_ok h xs s'
theorem G.for_ {tg : Tg} {w : Wk} {b : Sms} {mw : R (List α)} {gE : α → D} {es : σ → Env} {f : α → σ → R σ} {kk : σ → R β} (s0 : σ) (hw : SE (evW cal w env) mw fun xs => (xs.map gE, env)) (h0 : es s0 = env) (hb : ∀ x s, SR ((bindT tg (gE x) (es s)).bind (evB cal fuel b)) (f x s) fun s' fl => fl = .nx (es s') ∨ fl = .ct (es s')) (g : ∀ s, SR (andB (evB cal fuel r (es s)) k) (kk s) Q) : SR (andB (evB cal fuel (.cons (.for tg w b) r) env) k) (mw.bind fun xs => (R.for_ f xs s0).bind kk) Q := by
  have e : SE (evS cal fuel (.for tg w b) env) (mw.bind fun xs => R.for_ f xs s0) fun s => .nx (es s) := by
    rw [evS]
    refine SR.bind hw fun xs => ?_
    simp only
    rw [← h0]
    exact for_ok hb xs s0
  have := G.stm (r := r) (k := k) (Q := Q) e g
  rwa [R.bind_assoc] at this
theorem forF_ok {bd : D → Env → R Env} {b : Env → R Fl} {g : α → D} {es : σ → Env} {f : α → σ → R (Fw σ ρ)} {q : ρ → Fl → Prop} (h : ∀ x s, SR ((bd (g x) (es s)).bind b) (f x s) (FQ es q)) : ∀ (xs : List α) (s : σ), SR (forL bd b (xs.map g) (es s)) (R.forF f xs s) fun w fl => match w with | .inl s => fl = .nx (es s) | .inr r => (∃ d e, fl = .rt d e) ∧ q r fl
  | [], s => SR.ok rfl
  | x :: xs, s => by
    have e : forL bd b (List.map g (x :: xs)) (es s) = ((bd (g x) (es s)).bind b).bind fun f => match f with
      | .nx e => forL bd b (xs.map g) e
      | .ct e => forL bd b (xs.map g) e
      | .bk e => .ok (.nx e)
      | .rt d e => .ok (.rt d e) := by rw [R.bind_assoc]; rfl
    rw [e]
    refine SR.bindm (h x s) fun w fl hf => ?_
    cases w with
    | nx s' =>
      rcases hf with rfl | rfl
      · exact forF_ok h xs s'
      · exact forF_ok h xs s'
    | bk s' => have hf : fl = _ := hf; subst hf; exact SR.ok rfl
    | rt r =>
      obtain ⟨⟨d, e, rfl⟩, hq⟩ := hf
      exact SR.ok ⟨⟨d, e, rfl⟩, hq⟩
theorem G.forF {tg : Tg} {w : Wk} {b : Sms} {mw : R (List α)} {gE : α → D} {es : σ → Env} {f : α → σ → R (Fw σ ρ)} {kk : σ → R β} {wr : ρ → R β} {q : ρ → Fl → Prop} (s0 : σ) (hw : SE (evW cal w env) mw fun xs => (xs.map gE, env)) (h0 : es s0 = env) (hb : ∀ x s, SR ((bindT tg (gE x) (es s)).bind (evB cal fuel b)) (f x s) (FQ es q)) (g : ∀ s, SR (andB (evB cal fuel r (es s)) k) (kk s) Q) (hr : ∀ r f, q r f → SR (.ok f) (wr r) Q) : SR (andB (evB cal fuel (.cons (.for tg w b) r) env) k) (mw.bind fun xs => R.thenF (R.forF f xs s0) kk wr) Q := by
  rw [andB_cons, evS, andB, R.bind_assoc]
  refine SR.bind hw fun xs => ?_
  simp only
  rw [← h0]
  refine SR.bindm (forF_ok hb xs s0) fun w fl hf => ?_
  cases w with
  | inl s => have hf : fl = _ := hf; subst hf; exact g s
  | inr r =>
    obtain ⟨⟨d, e, rfl⟩, hq⟩ := hf
    exact hr r _ hq
theorem whl_ok {c : Env → R (Bool × Env)} {b : Env → R Fl} {es : σ → Env} {fc : σ → R Bool} {f : σ → R σ} (hc : ∀ s, SE (c (es s)) (fc s) fun b => (b, es s)) (h : ∀ s, SR (b (es s)) (f s) fun s' fl => fl = .nx (es s') ∨ fl = .ct (es s')) : ∀ (n : Nat) (s : σ), SE (whlL c b n (es s)) (R.whl fc f n s) fun s => .nx (es s)
  | 0, s => trivial
  | n + 1, s => by
    rw [whlL, R.whl]
    refine SR.bind (hc s) fun k => ?_
    cases k with
    | false => exact SR.ok rfl
    | true =>
      simp only [if_true]
      refine SR.bindm (h s) fun s' fl hf => ?_
      rcases hf with rfl | rfl
      · exact whl_ok hc h n s'
      · exact whl_ok hc h n s'
theorem G.whl {t : Ts} {b : Sms} {es : σ → Env} {fc : σ → R Bool} {f : σ → R σ} {kk : σ → R β} (s0 : σ) (h0 : es s0 = env) (hc : ∀ s, SE (evT cal t (es s)) (fc s) fun b => (b, es s)) (hb : ∀ s, SR (evB cal fuel b (es s)) (f s) fun s' fl => fl = .nx (es s') ∨ fl = .ct (es s')) (g : ∀ s, SR (andB (evB cal fuel r (es s)) k) (kk s) Q) : SR (andB (evB cal fuel (.cons (.whl t b) r) env) k) ((R.whl fc f fuel s0).bind kk) Q := by
  refine G.stm (e2 := es) ?_ g
  rw [evS, ← h0]
  exact whl_ok hc hb fuel s0
theorem whlF_ok {c : Env → R (Bool × Env)} {b : Env → R Fl} {es : σ → Env} {fc : σ → R Bool} {f : σ → R (Fw σ ρ)} {q : ρ → Fl → Prop} (hc : ∀ s, SE (c (es s)) (fc s) fun b => (b, es s)) (h : ∀ s, SR (b (es s)) (f s) (FQ es q)) : ∀ (n : Nat) (s : σ), SR (whlL c b n (es s)) (R.whlF fc f n s) fun w fl => match w with | .inl s => fl = .nx (es s) | .inr r => (∃ d e, fl = .rt d e) ∧ q r fl
  | 0, s => trivial
  | n + 1, s => by
    rw [whlL, R.whlF]
    refine SR.bind (hc s) fun k => ?_
    cases k with
    | false => exact SR.ok rfl
    | true =>
      simp only [if_true]
      refine SR.bindm (h s) fun w fl hf => ?_
      cases w with
      | nx s' =>
        rcases hf with rfl | rfl
        · exact whlF_ok hc h n s'
        · exact whlF_ok hc h n s'
      | bk s' => have hf : fl = _ := hf; subst hf; exact SR.ok rfl
      | rt r =>
        obtain ⟨⟨d, e, rfl⟩, hq⟩ := hf
        exact SR.ok ⟨⟨d, e, rfl⟩, hq⟩
theorem G.whlF {t : Ts} {b : Sms} {es : σ → Env} {fc : σ → R Bool} {f : σ → R (Fw σ ρ)} {kk : σ → R β} {wr : ρ → R β} {q : ρ → Fl → Prop} (s0 : σ) (h0 : es s0 = env) (hc : ∀ s, SE (evT cal t (es s)) (fc s) fun b => (b, es s)) (hb : ∀ s, SR (evB cal fuel b (es s)) (f s) (FQ es q)) (g : ∀ s, SR (andB (evB cal fuel r (es s)) k) (kk s) Q) (hr : ∀ r f, q r f → SR (.ok f) (wr r) Q) : SR (andB (evB cal fuel (.cons (.whl t b) r) env) k) (R.thenF (R.whlF fc f fuel s0) kk wr) Q := by
  rw [andB_cons, evS, ← h0]
  refine SR.bindm (whlF_ok hc hb fuel s0) fun w fl hf => ?_
  cases w with
  | inl s => have hf : fl = _ := hf; subst hf; exact g s
  | inr r =>
    obtain ⟨⟨d, e, rfl⟩, hq⟩ := hf
    exact hr r _ hq
/-! changes in place -/
theorem G.app {x : Nat} {e : Ex} {enc : α → D} {l : List α} {v : α} {kk : List α → R β} {e2 : List α → Env} (hx : gt env x = some (eL enc l)) (he : evE cal e env = .ok (enc v, env)) (h2 : ∀ l, env.set x (some (eL enc l)) = e2 l) (g : ∀ l, SR (andB (evB cal fuel r (e2 l)) k) (kk l) Q) : SR (andB (evB cal fuel (.cons (.app x .nil e) r) env) k) ((R.app l v).bind kk) Q := by
  refine G.stm (e2 := e2) ?_ g
  have hp : evP cal x .nil env = .ok ([], env) := by
    show pth x _ env = _
    unfold pth getv
    rw [hx]
    simp only [ofOpt, R.bind_ok, PEs.nil, hx, atPath]
  rw [evS, hp]
  simp only [R.bind_ok, getv, hx, ofOpt, atPath, Option.bind_some, he]
  show SE ((ofOpt (some ())).bind fun _ => _) _ _
  unfold R.app
  refine SR.grd fun c => ?_
  have : appTo (enc v) (eL enc l) = some (eL enc (l ++ [v])) := by
    show (if (l.map enc).length < sizeLine then some (D.lst (l.map enc ++ [enc v])) else none) = _
    rw [if_pos (by simpa using c), eL, List.map_append]; rfl
  simp only [ofOpt, R.bind_ok, onPath, this, h2]
  exact SR.ok rfl
theorem G.appm {x : Nat} {e : Ex} {enc : α → D} {ρ : Type} {l : ρ → List α} {mv : R ρ} {vo : ρ → α} {eo : ρ → Env} {kk : ρ → List α → R β} {e2 : ρ → List α → Env} {l0 : List α} (hx : gt env x = some (eL enc l0)) (he : SE (evE cal e env) mv fun a => (enc (vo a), eo a)) (hx2 : ∀ a, gt (eo a) x = some (eL enc (l a))) (h2 : ∀ a l, (eo a).set x (some (eL enc l)) = e2 a l) (g : ∀ a l, SR (andB (evB cal fuel r (e2 a l)) k) (kk a l) Q) : SR (andB (evB cal fuel (.cons (.app x .nil e) r) env) k) (mv.bind fun a => (R.app (l a) (vo a)).bind (kk a)) Q := by
  have hp : evP cal x .nil env = .ok ([], env) := by
    show pth x _ env = _
    unfold pth getv
    rw [hx]
    simp only [ofOpt, R.bind_ok, PEs.nil, hx, atPath]
  rw [andB_cons, evS, hp]
  simp only [R.bind_ok, getv, hx, ofOpt, atPath, Option.bind_some]
  show SR (andB ((ofOpt (some ())).bind fun _ => _) _) _ _
  rw [andB, R.bind_assoc]
  refine SR.bindp rfl ?_
  rw [R.bind_assoc]
  refine SR.bind he fun a => ?_
  simp only [getv, hx2, ofOpt, R.bind_ok]
  unfold R.app
  by_cases c : (l a).length < sizeLine
  · have : appTo (enc (vo a)) (eL enc (l a)) = some (eL enc (l a ++ [vo a])) := by
      show (if ((l a).map enc).length < sizeLine then some (D.lst ((l a).map enc ++ [enc (vo a)])) else none) = _
      rw [if_pos (by simpa using c), eL, List.map_append]; rfl
    rw [if_pos c]
    simp only [ofOpt, R.bind_ok, onPath, this, h2]
    exact g a _
  · rw [if_neg c]; trivial
theorem G.aug {x : Nat} {o : Op2} {old v : D} (hx : gt env x = some old) (he : evE cal e env = .ok (v, env)) (ho : opA o old v = some d) (h2 : env.set x (some d) = env2) (g : SR (andB (evB cal fuel r env2) k) m Q) : SR (andB (evB cal fuel (.cons (.aug x o e) r) env) k) m Q := by
  refine G.nx ?_ g
  rw [evS]
  simp only [getv, hx, ofOpt, R.bind_ok, he, ho, h2]
theorem G.augm {x : Nat} {o : Op2} {old : D} {m1 : R α} {out : α → D × Env} {k' : α → R β} {e2 : α → Env} (hx : gt env x = some old) (h : SE ((evE cal e env).bind fun v => (ofOpt (opA o old v.1)).bind fun d => .ok (d, v.2)) m1 out) (h2 : ∀ a, (out a).2.set x (some (out a).1) = e2 a) (g : ∀ a, SR (andB (evB cal fuel r (e2 a)) k) (k' a) Q) : SR (andB (evB cal fuel (.cons (.aug x o e) r) env) k) (m1.bind k') Q := by
  refine G.stm (e2 := e2) ?_ g
  rw [evS]
  simp only [getv, hx, ofOpt, R.bind_ok]
  have := SR.bind (f := fun v => R.ok (Fl.nx (v.2.set x (some v.1)))) (k := fun a => R.ok a) (Q := fun a g => g = .nx (e2 a)) h fun a => SR.ok (by rw [h2])
  rw [R.bind_assoc] at this
  simp only [R.bind_assoc, R.bind_ok] at this
  have hh : m1.bind (fun a => .ok a) = m1 := R.bind_ok_right m1
  rw [hh] at this
  exact this
theorem G.drop {m1 : R α} {k' : α → R β} {out : α → D × Env} {e2 : α → Env} (he : SE (evE cal e env) m1 out) (h2 : ∀ a, (out a).2 = e2 a) (g : ∀ a, SR (andB (evB cal fuel r (e2 a)) k) (k' a) Q) : SR (andB (evB cal fuel (.cons (.drop e) r) env) k) (m1.bind k') Q := by
  refine G.stm (e2 := e2) ?_ g
  rw [evS]
  exact SR.last he fun a => ⟨_, rfl, by rw [h2]⟩
/-- x[k] = v, x a list -/
theorem G.setL {dd : Bool} {x : Nat} {ke e : Ex} {enc : α → D} {l : List α} {i : Int} {v : α} {kk : List α → R β} {e2 : List α → Env} (he : evE cal e env = .ok (enc v, env)) (hx : gt env x = some (eL enc l)) (hk : evE cal ke env = .ok (.int i, env)) (h2 : ∀ l, env.set x (some (eL enc l)) = e2 l) (g : ∀ l, SR (andB (evB cal fuel r (e2 l)) k) (kk l) Q) : SR (andB (evB cal fuel (.cons (.sets dd x .nil ke e) r) env) k) ((R.setI l i v).bind kk) Q := by
  refine G.stm (e2 := e2) ?_ g
  have hp : evP cal x .nil env = .ok ([], env) := by
    show pth x _ env = _
    unfold pth getv
    rw [hx]
    simp only [ofOpt, R.bind_ok, PEs.nil, hx, atPath]
  rw [evS, he]
  simp only [R.bind_ok]
  rw [hp]
  simp only [R.bind_ok, hk, getv, hx, ofOpt, onPath]
  unfold R.setI
  cases hj : ixN l.length i with
  | none => trivial
  | some j =>
    have : setAt dd (.int i) (enc v) (eL enc l) = some (eL enc (l.set j v)) := by
      show (ixN (l.map enc).length i).bind _ = _
      rw [List.length_map, hj]
      show some (D.lst ((l.map enc).set j (enc v))) = _
      rw [← List.map_set]; rfl
    simp only [this, ofOpt, R.bind_ok, h2]
    exact SR.ok rfl
/-- x[k] op= v, x a list of numbers -/
theorem G.augsL {x : Nat} {o : Op2} {ke e : Ex} {l : List Int} {i : Int} {v : D} {no : Int → R Int} {kk : List Int → R β} {e2 : List Int → Env} (hx : gt env x = some (eL eI l)) (hk : evE cal ke env = .ok (.int i, env)) (he : evE cal e env = .ok (v, env)) (ho : ∀ z, SE (ofOpt (opA o (.int z) v)) (no z) eI) (h2 : ∀ l, env.set x (some (eL eI l)) = e2 l) (g : ∀ l, SR (andB (evB cal fuel r (e2 l)) k) (kk l) Q) : SR (andB (evB cal fuel (.cons (.augs x o .nil ke e) r) env) k) (((R.ix l i).bind fun z => (no z).bind fun w => R.setI l i w).bind kk) Q := by
  refine G.stm (e2 := e2) ?_ g
  have hp : evP cal x .nil env = .ok ([], env) := by
    show pth x _ env = _
    unfold pth getv
    rw [hx]
    simp only [ofOpt, R.bind_ok, PEs.nil, hx, atPath]
  rw [evS, hp]
  simp only [R.bind_ok, hk, getv, hx, ofOpt, onPath, atPath, Option.bind_some]
  unfold R.ix R.setI
  unfold atI
  cases hj : ixN l.length i with
  | none => trivial
  | some j =>
    cases hz : l[j]? with
    | none => simp only [Option.bind_some, hz]; trivial
    | some z =>
      have h1 : getAt (eL eI l) (.int i) = some (.int z) := by
        have : opF2 .idx (eL eI l) (.int i) = some (.int z) := by
          show atI (l.map eI) i = _
          unfold atI; rw [List.length_map, hj]; simp [hz]
        unfold getAt
        rw [this]; rfl
      simp only [Option.bind_some, hz, ofOpt, R.bind_ok, h1, he]
      refine SR.bind (ho z) fun w => ?_
      simp only [hx]
      have : setAt true (.int i) (.int w) (eL eI l) = some (eL eI (l.set j w)) := by
        show (ixN (l.map eI).length i).bind _ = _
        rw [List.length_map, hj]
        show some (D.lst ((l.map eI).set j (eI w))) = _
        rw [← List.map_set]; rfl
      simp only [this, ofOpt, R.bind_ok, h2]
      exact SR.ok rfl
theorem G.par {i j : Nat} {a b : Ex} {da db : D} (ha : evE cal a env = .ok (da, env)) (hb : evE cal b env = .ok (db, env)) (h2 : (env.set i (some da)).set j (some db) = env2) (g : SR (andB (evB cal fuel r env2) k) m Q) : SR (andB (evB cal fuel (.cons (.par i j a b) r) env) k) m Q := by
  refine G.nx ?_ g
  rw [evS, ha]
  simp only [R.bind_ok, hb, h2]
end

/-! ### functions -/
/-- how a function's body ends -/
def TQ {β : Type} (io : List Bool) (out : β → D × List (Option D)) : β → Fl → Prop := fun b f => (∃ d e, f = .rt d e ∧ (d, ioVals io e) = out b) ∨ (∃ e, f = .nx e ∧ (.non, ioVals io e) = out b)
theorem TQ.rt {β : Type} {io : List Bool} {out : β → D × List (Option D)} {b : β} {d : D} {e : Env} (h : (d, ioVals io e) = out b) : TQ io out b (.rt d e) := .inl ⟨d, e, rfl, h⟩
theorem TQ.nx {β : Type} {io : List Bool} {out : β → D × List (Option D)} {b : β} {e : Env} (h : (.non, ioVals io e) = out b) : TQ io out b (.nx e) := .inr ⟨e, rfl, h⟩
theorem callN_suc {tbl : List Fd} {fuel k f : Nat} {fd : Fd} {ds : List D} (h : tbl[f]? = some fd) : callN tbl fuel (k + 1) f ds = runF (callN tbl fuel k) fuel fd ds := by
  simp only [callN, h]
theorem run_ok {tbl : List Fd} {fuel k f : Nat} {fd : Fd} {ds : List D} {β : Type} {m : R β} {out : β → D × List (Option D)} {b : Sms} {env : Env} (h : tbl[f]? = some fd) (hl : ds.length = fd.np) (he : ds.map some ++ List.replicate (fd.N.length - ds.length) none = env) (hb : fd.body = b) (g : SR (evB (callN tbl fuel k) fuel b env) m (TQ fd.io out)) : SE (callN tbl fuel (k + 1) f ds) m out := by
  rw [callN_suc h]
  unfold runF
  rw [if_pos hl, he, hb]
  cases m with
  | bad => trivial
  | exc c d => have g : evB (callN tbl fuel k) fuel b env = .exc c d := g; rw [g]; rfl
  | ok v =>
    obtain ⟨f, g1, g2⟩ := g
    rw [g1]
    rcases g2 with ⟨d, e, rfl, q⟩ | ⟨e, rfl, q⟩
    · exact ⟨_, rfl, q⟩
    · exact ⟨_, rfl, q⟩
end DL
/-! PL2: operators and built-ins on typed data. -/
namespace DL
open PySem PySem.Spec PyProof.Rows L2
variable {α β γ δ : Type}

/-! ### equality -/
structure EqOk [DecidableEq α] (n : Nat) (e : α → D) : Prop where
  lay : ∀ a, (toPy (e a)).canLay0 = true
  dep : ∀ a, (toPy (e a)).depth ≤ n
  eq : ∀ a b, eqv (e a) (e b) = decide (a = b)
theorem EqOk.int : EqOk 0 eI := ⟨fun _ => rfl, fun _ => Nat.le_refl _, fun a b => by
  show (a == b) = _
  by_cases h : a = b <;> simp [h]⟩
theorem EqOk.bool : EqOk 0 eB := ⟨fun _ => rfl, fun _ => Nat.le_refl _, fun a b => by
  show (a == b) = _
  by_cases h : a = b <;> simp [h]⟩
theorem eqvL [DecidableEq α] {e : α → D} (h : ∀ a b, eqv (e a) (e b) = decide (a = b)) : ∀ l m : List α, PyData.eqvAll (toPyL (l.map e)) (toPyL (m.map e)) = decide (l = m)
  | [], [] => rfl
  | [], _ :: _ => rfl
  | _ :: _, [] => rfl
  | x :: l, y :: m => by
    have h1 : PyData.eqv (toPy (e x)) (toPy (e y)) = decide (x = y) := h x y
    simp only [List.map_cons, toPyL, PyData.eqvAll, h1, eqvL h l m]
    by_cases c : x = y <;> by_cases c2 : l = m <;> simp [c, c2]
theorem layL {e : α → D} (h : ∀ a, (toPy (e a)).canLay0 = true) : ∀ l : List α, PyData.canLayAll0 (toPyL (l.map e)) = true
  | [] => rfl
  | x :: l => by simp [toPyL, PyData.canLayAll0, h x, layL h l]
theorem depL {n : Nat} {e : α → D} (h : ∀ a, (toPy (e a)).depth ≤ n) : ∀ l : List α, PyData.depthAll (toPyL (l.map e)) ≤ n
  | [] => by simp [toPyL, PyData.depthAll]
  | x :: l => by simpa [toPyL, PyData.depthAll] using Nat.max_le.mpr ⟨h x, depL h l⟩
theorem EqOk.list [DecidableEq α] {n : Nat} {e : α → D} (h : EqOk n e) : EqOk (n + 1) (eL e) := ⟨fun l => by
  show (PyData.list _).canLay0 = true
  simp only [PyData.canLay0, layL h.lay], fun l => by
  show (PyData.list _).depth ≤ _
  simpa [PyData.depth] using depL h.dep l, fun l m => by
  show PyData.eqv (.list _) (.list _) = _
  simp only [PyData.eqv, eqvL h.eq]⟩
theorem EqOk.seq [DecidableEq α] {n : Nat} {e : α → D} (h : EqOk n e) : EqOk (n + 1) (eQ e) := ⟨fun l => by
  show (PyData.tuple _).canLay0 = true
  simp only [PyData.canLay0, layL h.lay], fun l => by
  show (PyData.tuple _).depth ≤ _
  simpa [PyData.depth] using depL h.dep l, fun l m => by
  show PyData.eqv (.tuple _) (.tuple _) = _
  simp only [PyData.eqv, eqvL h.eq]⟩
theorem EqOk.p2 [DecidableEq α] [DecidableEq β] {n m : Nat} {e : α → D} {f : β → D} (h : EqOk n e) (g : EqOk m f) : EqOk (max n m + 1) (eP2 e f) := ⟨fun l => by
  show (PyData.tuple _).canLay0 = true
  simp [PyData.canLay0, PyData.canLayAll0, toPyL, h.lay, g.lay], fun l => by
  show (PyData.tuple _).depth ≤ _
  have := h.dep l.1
  have := g.dep l.2
  simp [PyData.depth, PyData.depthAll, toPyL]
  omega, fun l m => by
  show PyData.eqv (.tuple _) (.tuple _) = _
  have h1 : PyData.eqv (toPy (e l.1)) (toPy (e m.1)) = _ := h.eq l.1 m.1
  have h2 : PyData.eqv (toPy (f l.2)) (toPy (f m.2)) = _ := g.eq l.2 m.2
  simp only [PyData.eqv, PyData.eqvAll, toPyL, h1, h2, Bool.and_true]
  rcases l with ⟨l1, l2⟩
  rcases m with ⟨m1, m2⟩
  by_cases c : l1 = m1 <;> by_cases c2 : l2 = m2 <;> simp [c, c2]⟩
theorem EqOk.p3 [DecidableEq α] [DecidableEq β] [DecidableEq γ] {n m k : Nat} {e : α → D} {f : β → D} {g : γ → D} (h : EqOk n e) (hf : EqOk m f) (hg : EqOk k g) : EqOk (max n (max m k) + 1) (eP3 e f g) := ⟨fun l => by
  show (PyData.tuple _).canLay0 = true
  simp [PyData.canLay0, PyData.canLayAll0, toPyL, h.lay, hf.lay, hg.lay], fun l => by
  show (PyData.tuple _).depth ≤ _
  have := h.dep l.1
  have := hf.dep l.2.1
  have := hg.dep l.2.2
  simp [PyData.depth, PyData.depthAll, toPyL]
  omega, fun l m => by
  show PyData.eqv (.tuple _) (.tuple _) = _
  have h1 : PyData.eqv (toPy (e l.1)) (toPy (e m.1)) = _ := h.eq l.1 m.1
  have h2 : PyData.eqv (toPy (f l.2.1)) (toPy (f m.2.1)) = _ := hf.eq l.2.1 m.2.1
  have h3 : PyData.eqv (toPy (g l.2.2)) (toPy (g m.2.2)) = _ := hg.eq l.2.2 m.2.2
  simp only [PyData.eqv, PyData.eqvAll, toPyL, h1, h2, h3, Bool.and_true]
  rcases l with ⟨l1, l2, l3⟩
  rcases m with ⟨m1, m2, m3⟩
  by_cases c : l1 = m1 <;> by_cases c2 : l2 = m2 <;> by_cases c3 : l3 = m3 <;> simp [c, c2, c3]⟩
section
variable [DecidableEq α] {n : Nat} {e : α → D}
theorem EqOk.shp (h : EqOk n e) (hn : n ≤ 64) (a : α) : shp (e a) = true := by
  unfold DL.shp SeqAt.shaped
  rw [h.lay a, decide_eq_true (Nat.le_trans (h.dep a) hn)]; rfl
theorem op_eq_any {a b : D} : opF2 .eq a b = if (DL.shp a && DL.shp b) = true then some (D.bl (eqv a b)) else none := by cases a <;> cases b <;> rfl
theorem op_ne_any {a b : D} : opF2 .ne a b = if (DL.shp a && DL.shp b) = true then some (D.bl (!eqv a b)) else none := by cases a <;> cases b <;> rfl
theorem op_inn_lst {a : D} {l : List D} : opF2 .inn a (.lst l) = if (DL.shp a && DL.shp (.lst l)) = true then some (D.bl (l.any fun z => eqv z a)) else none := by cases a <;> rfl
theorem op_nin_lst {a : D} {l : List D} : opF2 .nin a (.lst l) = if (DL.shp a && DL.shp (.lst l)) = true then some (D.bl (!l.any fun z => eqv z a)) else none := by cases a <;> rfl
theorem op_inn_tup {a : D} {l : List D} : opF2 .inn a (.tup l) = if (DL.shp a && DL.shp (.tup l)) = true then some (D.bl (l.any fun z => eqv z a)) else none := by cases a <;> rfl
theorem op_nin_tup {a : D} {l : List D} : opF2 .nin a (.tup l) = if (DL.shp a && DL.shp (.tup l)) = true then some (D.bl (!l.any fun z => eqv z a)) else none := by cases a <;> rfl
theorem op_eqT (h : EqOk n e) (hn : n ≤ 64) (a b : α) : opF2 .eq (e a) (e b) = some (D.bl (decide (a = b))) := by
  rw [op_eq_any, h.shp hn, h.shp hn, h.eq]; rfl
theorem op_neT (h : EqOk n e) (hn : n ≤ 64) (a b : α) : opF2 .ne (e a) (e b) = some (D.bl (!decide (a = b))) := by
  rw [op_ne_any, h.shp hn, h.shp hn, h.eq]; rfl
theorem any_eq (h : EqOk n e) (a : α) (l : List α) : ((l.map e).any fun z => eqv z (e a)) = decide (a ∈ l) := by
  rw [Bool.eq_iff_iff]
  simp only [List.any_map, List.any_eq_true, Function.comp, h.eq, decide_eq_true_eq]
  exact ⟨fun ⟨x, hx, q⟩ => q ▸ hx, fun q => ⟨a, q, rfl⟩⟩
theorem op_innT (h : EqOk n e) (hn : n + 1 ≤ 64) (a : α) (l : List α) : opF2 .inn (e a) (eL e l) = some (D.bl (decide (a ∈ l))) := by
  have h2 : DL.shp (.lst (l.map e)) = true := h.list.shp hn l
  rw [eL, op_inn_lst, h.shp (by omega), h2, any_eq h]; rfl
theorem op_ninT (h : EqOk n e) (hn : n + 1 ≤ 64) (a : α) (l : List α) : opF2 .nin (e a) (eL e l) = some (D.bl (!decide (a ∈ l))) := by
  have h2 : DL.shp (.lst (l.map e)) = true := h.list.shp hn l
  rw [eL, op_nin_lst, h.shp (by omega), h2, any_eq h]; rfl
theorem op_innQ (h : EqOk n e) (hn : n + 1 ≤ 64) (a : α) (l : List α) : opF2 .inn (e a) (eQ e l) = some (D.bl (decide (a ∈ l))) := by
  have h2 : DL.shp (.tup (l.map e)) = true := h.seq.shp hn l
  rw [eQ, op_inn_tup, h.shp (by omega), h2, any_eq h]; rfl
theorem op_ninQ (h : EqOk n e) (hn : n + 1 ≤ 64) (a : α) (l : List α) : opF2 .nin (e a) (eQ e l) = some (D.bl (!decide (a ∈ l))) := by
  have h2 : DL.shp (.tup (l.map e)) = true := h.seq.shp hn l
  rw [eQ, op_nin_tup, h.shp (by omega), h2, any_eq h]; rfl
end
theorem EqOk.opt [DecidableEq α] {n : Nat} {e : α → D} (h : EqOk n e) (hn : ∀ a, eqv (e a) .non = false ∧ eqv .non (e a) = false) : EqOk n (eO e) := ⟨fun a => by
  cases a with
  | none => rfl
  | some a => exact h.lay a, fun a => by
  cases a with
  | none => exact Nat.zero_le _
  | some a => exact h.dep a, fun a b => by
  cases a <;> cases b
  · rfl
  · exact (hn _).2
  · exact (hn _).1
  · rename_i a b
    show eqv (e a) (e b) = _
    rw [h.eq]; simp⟩
namespace R
def eqA (a b : D) : R Bool := if (DL.shp a && DL.shp b) = true then .ok (eqv a b) else .bad
def neA (a b : D) : R Bool := if (DL.shp a && DL.shp b) = true then .ok (!eqv a b) else .bad
def innA (a : D) (l : List D) : R Bool := if (DL.shp a && DL.shp (.lst l)) = true then .ok (l.any fun z => eqv z a) else .bad
def ninA (a : D) (l : List D) : R Bool := if (DL.shp a && DL.shp (.lst l)) = true then .ok (!l.any fun z => eqv z a) else .bad
def op (o : Op2) (a b : D) : R D := ofOpt (opF2 o a b)
def opB (o : Op2) (a b : D) : R Bool := (ofOpt (opF2 o a b)).bind fun d => ofOpt (asB d)
end R
theorem SE.self {x : R β} : SE x x fun b => b := by cases x with
  | ok a => exact ⟨a, rfl, rfl⟩
  | exc _ _ => rfl
  | bad => trivial
theorem op_eqA {a b : D} : SE (ofOpt (opF2 .eq a b)) (R.eqA a b) eB := by
  rw [op_eq_any]; unfold R.eqA; split
  · exact SR.ok rfl
  · trivial
theorem op_neA {a b : D} : SE (ofOpt (opF2 .ne a b)) (R.neA a b) eB := by
  rw [op_ne_any]; unfold R.neA; split
  · exact SR.ok rfl
  · trivial
theorem op_innA {a : D} {l : List D} : SE (ofOpt (opF2 .inn a (.lst l))) (R.innA a l) eB := by
  rw [op_inn_lst]; unfold R.innA; split
  · exact SR.ok rfl
  · trivial
theorem op_ninA {a : D} {l : List D} : SE (ofOpt (opF2 .nin a (.lst l))) (R.ninA a l) eB := by
  rw [op_nin_lst]; unfold R.ninA; split
  · exact SR.ok rfl
  · trivial
theorem op_any {o : Op2} {a b : D} : SE (ofOpt (opF2 o a b)) (R.op o a b) eA := SE.self
theorem op_anyB {o : Op2} {a b : D} : SE (ofOpt (opF2 o a b)) (R.opB o a b) eB := by
  unfold R.opB
  cases h : opF2 o a b with
  | none => trivial
  | some d =>
    cases d with
    | bl b => exact SR.ok rfl
    | _ => trivial
theorem eLA (l : List D) : eL eA l = .lst l := by simp [eL]
theorem eQA (l : List D) : eQ eA l = .tup l := by simp [eQ]

/-! ### numbers -/
theorem op_mul {i j : Int} : SE (ofOpt (opF2 .mul (.int i) (.int j))) (R.mul i j) eI := by
  unfold R.mul
  refine SR.grd fun c => ?_
  show SR (ofOpt (if mulOk i j = true then some (D.int (i * j)) else none)) _ _
  rw [if_pos c]; exact SR.ok rfl
theorem mul_ok {i j : Int} (h : mulOk i j = true) : opF2 .mul (.int i) (.int j) = some (D.int (i * j)) := if_pos h
theorem mul_litl {i j : Int} (h : i.natAbs < 18446744073709551616) : opF2 .mul (.int i) (.int j) = some (D.int (i * j)) := if_pos (by simp [mulOk, h])
theorem mul_litr {i j : Int} (h : j.natAbs < 18446744073709551616) : opF2 .mul (.int i) (.int j) = some (D.int (i * j)) := if_pos (by simp [mulOk, h])
theorem op_fdiv {i j : Int} : SE (ofOpt (opF2 .fdiv (.int i) (.int j))) (R.fdiv i j) eI := by
  unfold R.fdiv
  refine SR.grd fun c => ?_
  show SR (ofOpt (if 0 < j ∧ j.natAbs.log2 < 9000 then some (D.int (i / j)) else none)) _ _
  rw [if_pos c]; exact SR.ok rfl
theorem fdiv_lit {i j : Int} (h : 0 < j ∧ j.natAbs.log2 < 9000) : opF2 .fdiv (.int i) (.int j) = some (D.int (i / j)) := if_pos h
theorem op_mod {i j : Int} : SE (ofOpt (opF2 .mod (.int i) (.int j))) (R.mod i j) eI := by
  unfold R.mod
  refine SR.grd fun c => ?_
  show SR (ofOpt (if 0 < j then some (D.int (i % j)) else none)) _ _
  rw [if_pos c]; exact SR.ok rfl
theorem mod_lit {i j : Int} (h : 0 < j) : opF2 .mod (.int i) (.int j) = some (D.int (i % j)) := if_pos h
theorem op_pow {i j : Int} : SE (ofOpt (opF2 .pow (.int i) (.int j))) (R.pow i j) eI := by
  unfold R.pow
  refine SR.grd fun c => ?_
  show SR (ofOpt (if 0 ≤ j ∧ j ≤ 1000000 ∧ i.natAbs < 18446744073709551616 then some (D.int (i ^ j.toNat)) else none)) _ _
  rw [if_pos c]; exact SR.ok rfl
theorem pow_lit {i j z : Int} (h : 0 ≤ j ∧ j ≤ 1000000 ∧ i.natAbs < 18446744073709551616) (hz : i ^ j.toNat = z) : opF2 .pow (.int i) (.int j) = some (D.int z) := by subst hz; exact if_pos h
theorem op_fact {n : Int} : SE (ofOpt (b1F .fact (.int n))) (R.fact n) eI := by
  unfold R.fact
  refine SR.grd fun c => ?_
  show SR (ofOpt (if 0 ≤ n ∧ n ≤ 1000 then some (D.int (facN n.toNat)) else none)) _ _
  rw [if_pos c]; exact SR.ok rfl
theorem opA_mul {i j : Int} : SE (ofOpt (opA .mul (.int i) (.int j))) (R.mulA i j) eI := by
  unfold R.mulA
  refine SR.grd fun c => ?_
  show SR (ofOpt (if i.natAbs < 18446744073709551616 ∨ j.natAbs < 18446744073709551616 then some (D.int (i * j)) else none)) _ _
  rw [if_pos c]; exact SR.ok rfl
theorem opA_fdiv {i j : Int} : SE (ofOpt (opA .fdiv (.int i) (.int j))) (R.fdivA i j) eI := by
  unfold R.fdivA
  refine SR.grd fun c => ?_
  show SR (ofOpt (if 0 < j ∧ j < 1073741824 then some (D.int (i / j)) else none)) _ _
  rw [if_pos c]; exact SR.ok rfl
theorem opA_mod {i j : Int} : SE (ofOpt (opA .mod (.int i) (.int j))) (R.mod i j) eI := by
  unfold R.mod
  refine SR.grd fun c => ?_
  show SR (ofOpt (if 0 < j then some (D.int (i % j)) else none)) _ _
  rw [if_pos c]; exact SR.ok rfl
theorem opA_addp {i j : Int} : SE (ofOpt (opA .add (.int i) (.int j))) (.ok (i + j)) eI := SR.ok rfl
theorem opA_subp {i j : Int} : SE (ofOpt (opA .sub (.int i) (.int j))) (.ok (i - j)) eI := SR.ok rfl
def maxI (i j : Int) : Int := if j > i then j else i
def minI (i j : Int) : Int := if j < i then j else i
def absI (i : Int) : Int := if i < 0 then -i else i
theorem op_min2 (i j : Int) : b2F .min (.int i) (.int j) = some (D.int (minI i j)) := rfl
theorem op_max2 (i j : Int) : b2F .max (.int i) (.int j) = some (D.int (maxI i j)) := rfl
theorem op_abs (i : Int) : b1F .abs (.int i) = some (D.int (absI i)) := rfl

/-! ### lists -/
section
variable {e : α → D}
theorem op_lenL (l : List α) : b1F .len (eL e l) = some (D.int (l.length : Nat)) := by
  show some (D.int ((l.map e).length : Nat)) = _
  rw [List.length_map]
theorem op_lenQ (l : List α) : b1F .len (eQ e l) = some (D.int (l.length : Nat)) := by
  show some (D.int ((l.map e).length : Nat)) = _
  rw [List.length_map]
theorem op_lenSC (l : List Int) : b1F .len (eSC l) = some (D.int (l.length : Nat)) := rfl
theorem atI_map (l : List α) (i : Int) : atI (l.map e) i = (atI l i).map e := by
  unfold atI
  rw [List.length_map]
  cases ixN l.length i with
  | none => rfl
  | some j => simp
theorem op_ixL {l : List α} {i : Int} : SE (ofOpt (opF2 .idx (eL e l) (.int i))) (R.ix l i) e := by
  show SR (ofOpt (atI (l.map e) i)) (ofOpt (atI l i)) _
  rw [atI_map]
  cases atI l i with
  | none => trivial
  | some a => exact SR.ok rfl
theorem op_pixL {l : List α} {i : Int} : SE (ofOpt (opF2 .pix (eL e l) (.int i))) (R.ix l i) e := op_ixL
theorem op_ixQ {l : List α} {i : Int} : SE (ofOpt (opF2 .idx (eQ e l) (.int i))) (R.ix l i) e := by
  show SR (ofOpt (atI (l.map e) i)) (ofOpt (atI l i)) _
  rw [atI_map]
  cases atI l i with
  | none => trivial
  | some a => exact SR.ok rfl
theorem op_ixSC {l : List Int} {i : Int} : SE (ofOpt (opF2 .idx (eSC l) (.int i))) (R.ix l i) eI := by
  show SR (ofOpt ((atI l i).map D.int)) (ofOpt (atI l i)) _
  cases atI l i with
  | none => trivial
  | some a => exact SR.ok rfl
theorem op_addL {a b : List α} : SE (ofOpt (opF2 .add (eL e a) (eL e b))) (R.sz (a ++ b)) (eL e) := by
  unfold R.sz
  refine SR.grd fun c => ?_
  show SR (ofOpt (okL (a.map e ++ b.map e))) _ _
  unfold okL
  rw [← List.map_append, if_pos (by simpa using c)]
  exact SR.ok rfl
theorem op_slcL {l : List α} {lo hi : Option Int} : slcF (eL e l) lo hi = some (eL e (cutL l lo hi)) := by
  show some (D.lst (cutL (l.map e) lo hi)) = _
  simp [cutL, eL]
theorem op_slcQ {l : List α} {lo hi : Option Int} : slcF (eQ e l) lo hi = some (eQ e (cutL l lo hi)) := by
  show some (D.tup (cutL (l.map e) lo hi)) = _
  simp [cutL, eQ]
theorem op_slcSC {l : List Int} {lo hi : Option Int} : slcF (eSC l) lo hi = some (eL eI (cutL l lo hi)) := by
  show some (D.lst (cutL (l.map .int) lo hi)) = _
  simp [cutL, eL]
theorem op_rev {l : List α} : opF1 .rev (eL e l) = some (eL e l.reverse) := by
  show some (D.lst (l.map e).reverse) = _
  simp [eL]
theorem op_tuple {l : List α} : b1F .tuple (eL e l) = some (eQ e l) := rfl
theorem op_tupleQ {l : List α} : b1F .tuple (eQ e l) = some (eQ e l) := rfl
theorem op_list {l : List α} : b1F .list (eL e l) = some (eL e l) := rfl
theorem op_listQ {l : List α} : b1F .list (eQ e l) = some (eL e l) := rfl
theorem op_listSC {l : List Int} : b1F .list (eSC l) = some (eL eI l) := rfl
theorem op_truthL {l : List α} : truth (eL e l) = some !l.isEmpty := by
  show some (!(l.map e).isEmpty) = _
  simp
theorem op_isNL {l : List α} : opF1 .isN (eL e l) = some (D.bl false) := rfl
theorem op_notNL {l : List α} : opF1 .notN (eL e l) = some (D.bl true) := rfl
theorem isN_ne {d : D} (h : d ≠ .non) : opF1 .isN d = some (D.bl false) := by cases d <;> first | rfl | exact absurd rfl h
theorem notN_ne {d : D} (h : d ≠ .non) : opF1 .notN d = some (D.bl true) := by cases d <;> first | rfl | exact absurd rfl h
theorem op_isNO (h : ∀ a, e a ≠ .non) (o : Option α) : opF1 .isN (eO e o) = some (D.bl o.isNone) := by
  cases o with
  | none => rfl
  | some a => exact isN_ne (h a)
theorem op_notNO (h : ∀ a, e a ≠ .non) (o : Option α) : opF1 .notN (eO e o) = some (D.bl o.isSome) := by
  cases o with
  | none => rfl
  | some a => exact notN_ne (h a)
def isNd : D → Bool
  | .non => true
  | _ => false
theorem op_isNA (d : D) : opF1 .isN d = some (D.bl (isNd d)) := by cases d <;> rfl
theorem op_notNA (d : D) : opF1 .notN d = some (D.bl (!isNd d)) := by cases d <;> rfl
theorem nnL (l : List α) : eL e l ≠ .non := by simp [eL]
theorem nnQ (l : List α) : eQ e l ≠ .non := by simp [eQ]
theorem nnI (i : Int) : eI i ≠ .non := by simp
theorem nnB (i : Bool) : eB i ≠ .non := by simp
theorem nnS (i : Str) : eS i ≠ .non := by simp
theorem nnP2 {f : β → D} (p : α × β) : eP2 e f p ≠ .non := by simp [eP2]
theorem nnP3 {f : β → D} {g : γ → D} (p : α × β × γ) : eP3 e f g p ≠ .non := by simp [eP3]
end
theorem intsOf_map : ∀ l : List Int, intsOf (l.map eI) = some l
  | [] => rfl
  | x :: l => by simp [intsOf, intsOf_map l]
theorem rowsOf_map : ∀ L : List (List Int), rowsOf (L.map (eL eI)) = some L
  | [] => rfl
  | x :: L => by
    have h := rowsOf_map L
    simp only [List.map_cons, eL, rowsOf] at h ⊢
    rw [show (x.map eI) = x.map D.int from rfl, show intsOf (x.map D.int) = some x from intsOf_map x]
    simp only [Option.bind_some, h, Option.map_some]
theorem blsOf_map : ∀ l : List Bool, blsOf (l.map eB) = some l
  | [] => rfl
  | x :: l => by simp [blsOf, blsOf_map l]
theorem op_sortI {l : List Int} : b1F .sorted (eL eI l) = some (eL eI (sortI l)) := by
  show sortD (l.map eI) = _
  unfold sortD; rw [intsOf_map]; rfl
theorem op_sortR {L : List (List Int)} : b1F .sorted (eL (eL eI) L) = some (eL (eL eI) (sortR L)) := by
  show sortD (L.map (eL eI)) = _
  cases L with
  | nil => rfl
  | cons x L =>
    unfold sortD
    rw [show intsOf ((x :: L).map (eL eI)) = none from rfl]
    show (rowsOf _).bind _ = _
    rw [rowsOf_map]; rfl
theorem op_srev {l : List Int} : b1F .srev (eL eI l) = some (eL eI (sortI l).reverse) := by
  show (intsOf (l.map eI)).bind _ = _
  rw [intsOf_map]; rfl
theorem op_sum {l : List Int} : b1F .sum (eL eI l) = some (D.int l.sum) := by
  show (intsOf (l.map eI)).bind _ = _
  rw [intsOf_map]; rfl
theorem op_all {l : List Bool} : b1F .all (eL eB l) = some (D.bl (l.all id)) := by
  show (blsOf (l.map eB)).bind _ = _
  rw [blsOf_map]; rfl
theorem op_any1 {l : List Bool} : b1F .any (eL eB l) = some (D.bl (l.any id)) := by
  show (blsOf (l.map eB)).bind _ = _
  rw [blsOf_map]; rfl
namespace R
def minL (l : List Int) : R Int := ofOpt (leastI l)
def maxL (l : List Int) : R Int := ofOpt (mostI l)
def index [DecidableEq α] (l : List α) (a : α) : R Int := (ofOpt (firstAt (fun z => decide (z = a)) l)).bind fun j => .ok (j : Int)
end R
theorem op_minL {l : List Int} : SE (ofOpt (b1F .min (eL eI l))) (R.minL l) eI := by
  show SR (ofOpt ((intsOf (l.map eI)).bind _)) (ofOpt (leastI l)) _
  rw [intsOf_map]
  show SR (ofOpt ((leastI l).bind _)) (ofOpt (leastI l)) _
  cases leastI l with
  | none => trivial
  | some a => exact SR.ok rfl
theorem op_maxL {l : List Int} : SE (ofOpt (b1F .max (eL eI l))) (R.maxL l) eI := by
  show SR (ofOpt ((intsOf (l.map eI)).bind _)) (ofOpt (mostI l)) _
  rw [intsOf_map]
  show SR (ofOpt ((mostI l).bind _)) (ofOpt (mostI l)) _
  cases mostI l with
  | none => trivial
  | some a => exact SR.ok rfl
theorem firstAt_map {p : D → Bool} {e : α → D} : ∀ l : List α, firstAt p (l.map e) = firstAt (fun a => p (e a)) l
  | [] => rfl
  | x :: l => by simp only [List.map_cons, firstAt, firstAt_map l]
theorem op_index [DecidableEq α] {n : Nat} {e : α → D} (h : EqOk n e) (hn : n + 1 ≤ 64) {l : List α} {a : α} : SE (ofOpt (m1F .index (eL e l) (e a))) (R.index l a) eI := by
  have h1 : m1F .index (eL e l) (e a) = if (shp (e a) && shp (.lst (l.map e))) = true then (firstAt (fun z => eqv z (e a)) (l.map e)).bind fun j => some (D.int j) else none := rfl
  have h2 : shp (.lst (l.map e)) = true := h.list.shp hn l
  rw [h1, h2, h.shp (by omega), firstAt_map]
  simp only [h.eq]
  unfold R.index
  cases firstAt (fun z => decide (z = a)) l with
  | none => trivial
  | some j => exact SR.ok rfl
theorem op_count {l : List Int} {k : Int} : m1F .count (eL eI l) (.int k) = some (D.int (l.count k : Nat)) := by
  show (intsOf (l.map eI)).bind _ = _
  rw [intsOf_map]; rfl
theorem op_rngS1 {n : Int} : SE (ofOpt (b1F .rng (.int n))) (R.rngS 0 n) (eL eI) := by
  unfold R.rngS
  refine SR.grd fun c => ?_
  show SR (ofOpt (if (rngOk 0 n && decide (n ≤ 16777216)) = true then some (D.lst (rngL 0 n)) else none)) _ _
  rw [if_pos (by simpa using c), rngL_eq]; exact SR.ok rfl
theorem op_rngS2 {i j : Int} : SE (ofOpt (b2F .rng (.int i) (.int j))) (R.rngS i j) (eL eI) := by
  unfold R.rngS
  refine SR.grd fun c => ?_
  show SR (ofOpt (if (rngOk i j && decide (j - i ≤ 16777216)) = true then some (D.lst (rngL i j)) else none)) _ _
  rw [if_pos c, rngL_eq]; exact SR.ok rfl
theorem op_int (i : Int) : b1F .int (.int i) = some (D.int i) := rfl
theorem op_intB (b : Bool) : b1F .int (.bl b) = some (D.int (b2d b)) := rfl

/-! ### tuples -/
theorem op_p2_0 {e : α → D} {f : β → D} (p : α × β) : opF2 .idx (eP2 e f p) (.int 0) = some (e p.1) := rfl
theorem op_p2_1 {e : α → D} {f : β → D} (p : α × β) : opF2 .idx (eP2 e f p) (.int 1) = some (f p.2) := rfl
theorem op_p3_0 {e : α → D} {f : β → D} {g : γ → D} (p : α × β × γ) : opF2 .idx (eP3 e f g p) (.int 0) = some (e p.1) := rfl
theorem op_p3_1 {e : α → D} {f : β → D} {g : γ → D} (p : α × β × γ) : opF2 .idx (eP3 e f g p) (.int 1) = some (f p.2.1) := rfl
theorem op_p3_2 {e : α → D} {f : β → D} {g : γ → D} (p : α × β × γ) : opF2 .idx (eP3 e f g p) (.int 2) = some (g p.2.2) := rfl

/-! ### the record of draws -/
theorem kk_na : decide ((Sum.inr (Str.ofString "numbers") : Int ⊕ Str) = Sum.inr (Str.ofString "at")) = false := by decide +kernel
theorem kk_an : decide ((Sum.inr (Str.ofString "at") : Int ⊕ Str) = Sum.inr (Str.ofString "numbers")) = false := by decide +kernel
theorem kk_nn : decide ((Sum.inr (Str.ofString "numbers") : Int ⊕ Str) = Sum.inr (Str.ofString "numbers")) = true := by decide +kernel
theorem kk_aa : decide ((Sum.inr (Str.ofString "at") : Int ⊕ Str) = Sum.inr (Str.ofString "at")) = true := by decide +kernel
theorem qq_na : ((Sum.inr (Str.ofString "numbers") : Int ⊕ Str) = Sum.inr (Str.ofString "at")) = False := by simpa using kk_na
theorem op_stN (s : St) : opF2 .idx (eST s) (.str "numbers") = some (eL eI s.1) := by
  show valD [((Sum.inr (Str.ofString "numbers") : Key), eL eI s.1), ((Sum.inr (Str.ofString "at") : Key), D.int s.2)] (Sum.inr (Str.ofString "numbers")) = _
  simp only [valD, List.find?_cons, decide_true, Option.map_some]
theorem op_stA (s : St) : opF2 .idx (eST s) (.str "at") = some (D.int s.2) := by
  show valD [((Sum.inr (Str.ofString "numbers") : Key), eL eI s.1), ((Sum.inr (Str.ofString "at") : Key), D.int s.2)] (Sum.inr (Str.ofString "at")) = _
  simp only [valD, List.find?_cons, kk_na, decide_true, Option.map_some]
theorem set_stA (s : St) (i : Int) : setAt true (.str "at") (.int i) (eST s) = some (eST (s.1, i)) := by
  show (if [((Sum.inr (Str.ofString "numbers") : Key), eL eI s.1), ((Sum.inr (Str.ofString "at") : Key), D.int s.2)].length < sizeLine then some (D.dic (putD [((Sum.inr (Str.ofString "numbers") : Key), eL eI s.1), ((Sum.inr (Str.ofString "at") : Key), D.int s.2)] (Sum.inr (Str.ofString "at")) (.int i))) else none) = _
  refine (if_pos (show 2 < sizeLine by decide)).trans ?_
  simp only [putD, List.any_cons, kk_na, kk_aa, Bool.true_or, Bool.or_true, if_true, List.map_cons, List.map_nil, qq_na, if_false]
  rfl
theorem dsp_st (l : List Int) (i : Int) : dspL [.str "numbers", eL eI l, .str "at", .int i] = some [(.inr "numbers", eL eI l), (.inr "at", .int i)] := by
  show (if 2 ≤ 15 then some (List.foldl (fun acc kv => putD acc kv.1 kv.2) [] [((Sum.inr (Str.ofString "numbers") : Key), eL eI l), ((Sum.inr (Str.ofString "at") : Key), D.int i)]) else none) = _
  rw [if_pos (by decide)]
  simp only [List.foldl_cons, List.foldl_nil, putD, List.any_cons, List.any_nil, kk_na, kk_an, Bool.false_eq_true, if_false, List.nil_append, List.cons_append, Bool.or_false]

/-! ### dicts -/
section
variable {κ : Type} [DecidableEq κ]
def getK (kvs : List (κ × α)) (k : κ) : Option α := (kvs.find? fun kv => decide (kv.1 = k)).map (·.2)
def setK (kvs : List (κ × α)) (k : κ) (v : α) : List (κ × α) :=
  if (kvs.any fun kv => decide (kv.1 = k)) = true then kvs.map (fun kv => if kv.1 = k then (kv.1, v) else kv) else kvs ++ [(k, v)]
end
theorem valD_I {e : α → D} (l : List (Int × α)) (k : Int) : valD (l.map fun p => ((Sum.inl p.1 : Key), e p.2)) (Sum.inl k) = (getK l k).map e := by
  unfold valD getK
  induction l with
  | nil => rfl
  | cons p l ih =>
    simp only [List.map_cons, List.find?_cons]
    by_cases c : p.1 = k
    · simp [c]
    · have : decide ((Sum.inl p.1 : Key) = Sum.inl k) = false := by simp [c]
      rw [this, decide_eq_false c]; exact ih
theorem valD_S {e : α → D} (l : List (Str × α)) (k : Str) : valD (l.map fun p => ((Sum.inr p.1 : Key), e p.2)) (Sum.inr k) = (getK l k).map e := by
  unfold valD getK
  induction l with
  | nil => rfl
  | cons p l ih =>
    simp only [List.map_cons, List.find?_cons]
    by_cases c : p.1 = k
    · simp [c]
    · have : decide ((Sum.inr p.1 : Key) = Sum.inr k) = false := by simp [c]
      rw [this, decide_eq_false c]; exact ih
theorem putD_I {e : α → D} (l : List (Int × α)) (k : Int) (v : α) : putD (l.map fun p => ((Sum.inl p.1 : Key), e p.2)) (Sum.inl k) (e v) = (setK l k v).map fun p => ((Sum.inl p.1 : Key), e p.2) := by
  unfold putD setK
  have h : ((l.map fun p => ((Sum.inl p.1 : Key), e p.2)).any fun kv => decide (kv.1 = Sum.inl k)) = l.any fun kv => decide (kv.1 = k) := by
    simp [List.any_map, Function.comp_def]
  rw [h]
  split
  · rw [List.map_map, List.map_map]
    apply List.map_congr_left
    intro p _
    by_cases c : p.1 = k <;> simp [c]
  · simp
theorem putD_S {e : α → D} (l : List (Str × α)) (k : Str) (v : α) : putD (l.map fun p => ((Sum.inr p.1 : Key), e p.2)) (Sum.inr k) (e v) = (setK l k v).map fun p => ((Sum.inr p.1 : Key), e p.2) := by
  unfold putD setK
  have h : ((l.map fun p => ((Sum.inr p.1 : Key), e p.2)).any fun kv => decide (kv.1 = Sum.inr k)) = l.any fun kv => decide (kv.1 = k) := by
    simp [List.any_map, Function.comp_def]
  rw [h]
  split
  · rw [List.map_map, List.map_map]
    apply List.map_congr_left
    intro p _
    by_cases c : p.1 = k <;> simp [c]
  · simp
namespace R
def get {κ : Type} [DecidableEq κ] (l : List (κ × α)) (k : κ) : R α := ofOpt (getK l k)
@[irreducible] def put {κ : Type} [DecidableEq κ] (l : List (κ × α)) (k : κ) (v : α) : R (List (κ × α)) := if l.length < sizeLine then .ok (setK l k v) else .bad
end R
theorem op_ixDI {e : α → D} {l : List (Int × α)} {k : Int} : SE (ofOpt (opF2 .idx (eDI e l) (.int k))) (R.get l k) e := by
  show SR (ofOpt (valD (l.map fun p => ((Sum.inl p.1 : Key), e p.2)) (Sum.inl k))) (ofOpt (getK l k)) _
  rw [valD_I]
  cases getK l k with
  | none => trivial
  | some a => exact SR.ok rfl
theorem op_ixDS {e : α → D} {l : List (Str × α)} {k : Str} : SE (ofOpt (opF2 .idx (eDS e l) (.str k))) (R.get l k) e := by
  show SR (ofOpt (valD (l.map fun p => ((Sum.inr p.1 : Key), e p.2)) (Sum.inr k))) (ofOpt (getK l k)) _
  rw [valD_S]
  cases getK l k with
  | none => trivial
  | some a => exact SR.ok rfl
theorem op_innDI {e : α → D} {l : List (Int × α)} {k : Int} : opF2 .inn (.int k) (eDI e l) = some (D.bl (getK l k).isSome) := by
  show some (D.bl (valD (l.map fun p => ((Sum.inl p.1 : Key), e p.2)) (Sum.inl k)).isSome) = _
  rw [valD_I]; simp
theorem op_ninDI {e : α → D} {l : List (Int × α)} {k : Int} : opF2 .nin (.int k) (eDI e l) = some (D.bl !(getK l k).isSome) := by
  show some (D.bl !(valD (l.map fun p => ((Sum.inl p.1 : Key), e p.2)) (Sum.inl k)).isSome) = _
  rw [valD_I]; simp
theorem op_innDS {e : α → D} {l : List (Str × α)} {k : Str} : opF2 .inn (.str k) (eDS e l) = some (D.bl (getK l k).isSome) := by
  show some (D.bl (valD (l.map fun p => ((Sum.inr p.1 : Key), e p.2)) (Sum.inr k)).isSome) = _
  rw [valD_S]; simp
theorem op_lenDI {e : α → D} {l : List (Int × α)} : b1F .len (eDI e l) = some (D.int (l.length : Nat)) := by
  show some (D.int ((l.map _).length : Nat)) = _
  rw [List.length_map]
theorem op_newDI {e : α → D} : D.dic [] = eDI e [] := rfl
theorem op_setDI {e : α → D} {l : List (Int × α)} {k : Int} {v : α} : SE (ofOpt (setAt true (.int k) (e v) (eDI e l))) (R.put l k v) (eDI e) := by
  unfold R.put
  refine SR.grd fun c => ?_
  have : setAt true (.int k) (e v) (eDI e l) = if (l.map fun p => ((Sum.inl p.1 : Key), e p.2)).length < sizeLine then some (.dic (putD (l.map fun p => ((Sum.inl p.1 : Key), e p.2)) (Sum.inl k) (e v))) else none := rfl
  rw [this, if_pos (by simpa using c), putD_I]
  exact SR.ok rfl
theorem op_setDS {e : α → D} {l : List (Str × α)} {k : Str} {v : α} : SE (ofOpt (setAt true (.str k) (e v) (eDS e l))) (R.put l k v) (eDS e) := by
  unfold R.put
  refine SR.grd fun c => ?_
  have : setAt true (.str k) (e v) (eDS e l) = if (l.map fun p => ((Sum.inr p.1 : Key), e p.2)).length < sizeLine then some (.dic (putD (l.map fun p => ((Sum.inr p.1 : Key), e p.2)) (Sum.inr k) (e v))) else none := rfl
  rw [this, if_pos (by simpa using c), putD_S]
  exact SR.ok rfl

/-! ### data of unknown kind, as typed -/
def mapO (f : D → Option α) : List D → Option (List α)
  | [] => some []
  | d :: ds => match f d, mapO f ds with
    | some a, some l => some (a :: l)
    | _, _ => none
def dI : D → Option Int
  | .int i => some i
  | _ => none
def dB : D → Option Bool
  | .bl i => some i
  | _ => none
def dS : D → Option Str
  | .str i => some i
  | _ => none
def dL (f : D → Option α) : D → Option (List α)
  | .lst ds => mapO f ds
  | _ => none
def dQ (f : D → Option α) : D → Option (List α)
  | .tup ds => mapO f ds
  | _ => none
def dA : D → Option D := fun d => some d
def dP2 (f : D → Option α) (g : D → Option β) : D → Option (α × β)
  | .tup [a, b] => match f a, g b with
    | some a, some b => some (a, b)
    | _, _ => none
  | _ => none
def DecOk (f : D → Option α) (e : α → D) : Prop := ∀ d a, f d = some a → e a = d
theorem DecOk.int : DecOk dI eI := fun d a h => by cases d <;> simp [dI] at h; subst h; rfl
theorem DecOk.bool : DecOk dB eB := fun d a h => by cases d <;> simp [dB] at h; subst h; rfl
theorem DecOk.str : DecOk dS eS := fun d a h => by cases d <;> simp [dS] at h; subst h; rfl
theorem DecOk.any : DecOk dA eA := fun d a h => by cases h; rfl
theorem decs_ok {f : D → Option α} {e : α → D} (h : DecOk f e) : ∀ (ds : List D) (l : List α), mapO f ds = some l → l.map e = ds
  | [], l, q => by cases q; rfl
  | d :: ds, l, q => by
    unfold mapO at q
    cases hf : f d with
    | none => rw [hf] at q; cases q
    | some a =>
      rw [hf] at q
      cases hm : mapO f ds with
      | none => rw [hm] at q; cases q
      | some l' =>
        rw [hm] at q
        cases q
        simp [h d a hf, decs_ok h ds l' hm]
theorem DecOk.list {f : D → Option α} {e : α → D} (h : DecOk f e) : DecOk (dL f) (eL e) := fun d l q => by
  cases d <;> first | (cases q; done) | skip
  exact congrArg D.lst (decs_ok h _ _ q)
theorem DecOk.seq {f : D → Option α} {e : α → D} (h : DecOk f e) : DecOk (dQ f) (eQ e) := fun d l q => by
  cases d <;> first | (cases q; done) | skip
  exact congrArg D.tup (decs_ok h _ _ q)
theorem DecOk.p2 {f : D → Option α} {g : D → Option β} {e : α → D} {e' : β → D} (h : DecOk f e) (h' : DecOk g e') : DecOk (dP2 f g) (eP2 e e') := fun d l q => by
  unfold dP2 at q
  split at q
  · rename_i a b
    split at q
    · rename_i x y hx hy
      cases q
      show D.tup [e x, e' y] = _
      rw [h _ _ hx, h' _ _ hy]
    · cases q
  · cases q
theorem SE.decp {x : R (D × Env)} {d : D} {env : Env} {f : D → Option α} {e : α → D} (k : DecOk f e) (h : x = .ok (d, env)) : SE x (ofOpt (f d)) fun a => (e a, env) := by
  subst h
  cases hf : f d with
  | some a => exact SR.ok (by simp [k d a hf])
  | none => trivial
theorem SE.decm {x : R (D × Env)} {m : R D} {env : Env} {f : D → Option α} {e : α → D} (k : DecOk f e) (h : SE x m fun d => (d, env)) : SE x (m.bind fun d => ofOpt (f d)) fun a => (e a, env) := by
  have := SR.bind (f := R.ok) (k := fun d => ofOpt (f d)) (Q := fun a g => g = (e a, env)) h fun d => by
    cases hf : f d with
    | none => trivial
    | some a => exact SR.ok (by rw [k d a hf])
  rwa [R.bind_ok_right] at this
theorem SE.getO {x : R (D × Env)} {o : Option α} {env : Env} {e : α → D} (h : x = .ok (eO e o, env)) : SE x (R.getO o) fun a => (e a, env) := by
  subst h
  cases o with
  | none => trivial
  | some a => exact SR.ok rfl
theorem SE.getOm {x : R (D × Env)} {m : R (Option α)} {env : Env} {e : α → D} (h : SE x m fun o => (eO e o, env)) : SE x (m.bind R.getO) fun a => (e a, env) := by
  have := SR.bind (f := R.ok) (k := R.getO) (Q := fun a g => g = (e a, env)) h fun o => by
    cases o with
    | none => trivial
    | some a => exact SR.ok rfl
  rwa [R.bind_ok_right] at this
/-- a step's answer, seen another way -/
theorem SE.co {x : R (D × Env)} {m : R α} {env : Env} {e : α → D} {f : β → D} (g : α → β) (h : SE x m fun o => (e o, env)) (q : ∀ a, f (g a) = e a) : SE x (m.bind fun a => .ok (g a)) fun a => (f a, env) := by
  have := SR.bind (f := R.ok) (k := fun a => R.ok (g a)) (Q := fun a z => z = (f a, env)) h fun o => SR.ok (by rw [q])
  rwa [R.bind_ok_right] at this
end DL
namespace DL
open PySem PySem.Spec PyProof.Rows L2
theorem SE.by_ {β γ : Type} {x : R γ} {m : R β} (out : β → γ) (h : SE x m out) : SE x m out := h
/-- how a turn gives back -/
def RQ {ρ : Type} (io : List Bool) (out : ρ → D × List (Option D)) : ρ → Fl → Prop := fun r f => ∃ d e, f = .rt d e ∧ (d, ioVals io e) = out r
theorem RQ.toT {ρ : Type} {io : List Bool} {out : ρ → D × List (Option D)} {r : ρ} {f : Fl} (h : RQ io out r f) : TQ io out r f := .inl h
theorem FQ.rt' {σ ρ : Type} {es : σ → Env} {io : List Bool} {out : ρ → D × List (Option D)} {r : ρ} {d : D} {e : Env} (h : (d, ioVals io e) = out r) : FQ es (RQ io out) (.rt r) (.rt d e) := ⟨⟨d, e, rfl⟩, d, e, rfl, h⟩
theorem RQ.toF {σ ρ : Type} {es : σ → Env} {io : List Bool} {out : ρ → D × List (Option D)} {r : ρ} {f : Fl} (h : RQ io out r f) : FQ es (RQ io out) (.rt r) f := by
  obtain ⟨d, e, rfl, q⟩ := h; exact ⟨⟨d, e, rfl⟩, d, e, rfl, q⟩
theorem JQ.rt' {σ β : Type} {es : σ → Env} {Q : β → Fl → Prop} {v : β} {d : D} {e : Env} (h : Q v (.rt d e)) : JQ es Q (.rt v) (.rt d e) := ⟨fun _ z => (nomatch z), h⟩
theorem JQ.bk' {σ β : Type} {es : σ → Env} {Q : β → Fl → Prop} {v : β} {e : Env} (h : Q v (.bk e)) : JQ es Q (.rt v) (.bk e) := ⟨fun _ z => (nomatch z), h⟩
theorem JQ.ct' {σ β : Type} {es : σ → Env} {Q : β → Fl → Prop} {v : β} {e : Env} (h : Q v (.ct e)) : JQ es Q (.rt v) (.ct e) := ⟨fun _ z => (nomatch z), h⟩
theorem JQ.ofR {σ ρ β : Type} {es : σ → Env} {io : List Bool} {out : ρ → D × List (Option D)} {Q : β → Fl → Prop} {v : β} {r : ρ} {f : Fl} (h : RQ io out r f) (g : RQ io out r f → Q v f) : JQ es Q (.rt v) f := by
  obtain ⟨d, e, rfl, q⟩ := h
  exact ⟨fun _ z => (nomatch z), g ⟨d, e, rfl, q⟩⟩
theorem PE.co {cal : Cal} {e : Ex} {env env' : Env} {d d' : D} (h : evE cal e env = .ok (d, env')) (q : d = d') : evE cal e env = .ok (d', env') := by rw [h, q]
theorem co_LA {α : Type} {e : α → D} (l : List α) : eL e l = eL eA (l.map e) := by simp [eL]
theorem co_QA {α : Type} {e : α → D} (l : List α) : eQ e l = eQ eA (l.map e) := by simp [eQ]
end DL
/-! PL3: more steps: changes in place, pop, texts. -/
namespace DL
open PySem PySem.Spec PyProof.Rows L2
namespace R
variable {α : Type}
@[irreducible] def popI (l : List α) (i : Int) : R (α × List α) := if -4611686018427387904 ≤ i ∧ i < 4611686018427387904 then (ofOpt (ixN l.length i)).bind fun j => (ofOpt l[j]?).bind fun y => .ok (y, l.eraseIdx j) else .bad
def popL (l : List α) : R (α × List α) := (ofOpt l.getLast?).bind fun y => .ok (y, l.dropLast)
def appAt (L : List (List α)) (i : Int) (v : α) : R (List (List α)) := (ofOpt (ixN L.length i)).bind fun j => (ofOpt L[j]?).bind fun l => (R.app l v).bind fun l' => .ok (L.set j l')
def b1 (o : B1) (d : D) : R D := ofOpt (b1F o d)
def b1I (o : B1) (d : D) : R Int := (ofOpt (b1F o d)).bind fun d => ofOpt (dI d)
@[irreducible] def addS (a b : Str) : R Str := if a.length + b.length ≤ sizeLine then .ok (a ++ b) else .bad
end R
def R.isi (ts : List Ty) (d : D) : R Bool := if isScr d = true then .bad else .ok (ts.any (tyOf d))
theorem op_b1 {o : B1} {d : D} : SE (ofOpt (b1F o d)) (R.b1 o d) eA := SE.self
theorem op_b1I {o : B1} {d : D} : SE (ofOpt (b1F o d)) (R.b1I o d) eI := by
  unfold R.b1I
  cases h : b1F o d with
  | none => trivial
  | some d =>
    cases d with
    | int i => exact SR.ok rfl
    | _ => trivial
theorem op_addS {a b : Str} : SE (ofOpt (opF2 .add (.str a) (.str b))) (R.addS a b) eS := by
  unfold R.addS
  refine SR.grd fun c => ?_
  show SR (ofOpt (if a.length + b.length ≤ sizeLine then some (D.str (a ++ b)) else none)) _ _
  rw [if_pos c]; exact SR.ok rfl
theorem SR.decf {α : Type} {d : D} {env : Env} {f : D → Option α} {e : α → D} (k : DecOk f e) : SR ((R.ok env).bind fun env' => R.ok (d, env')) (ofOpt (f d)) fun a g => g = (e a, env) := by
  cases hf : f d with
  | some a => exact SR.ok (by rw [k d a hf])
  | none => trivial
section
variable {cal : Cal} {fuel : Nat} {env env1 env2 : Env} {s : Sm} {r A B : Sms} {k : Env → R Fl} {α β ρ σ γ : Type} {m : R β} {Q : β → Fl → Prop} {e ke : Ex} {d : D} {es : Exs}
theorem pth_nil {x : Nat} {d : D} (hx : gt env x = some d) : evP cal x .nil env = .ok ([], env) := by
  show pth x _ env = _
  unfold pth getv
  rw [hx]
  simp only [ofOpt, R.bind_ok, PEs.nil, hx, atPath]
theorem eraseIdx_map' (f : α → γ) : ∀ (l : List α) (j : Nat), (l.map f).eraseIdx j = (l.eraseIdx j).map f
  | [], _ => rfl
  | _ :: _, 0 => rfl
  | x :: l, j + 1 => by simp [eraseIdx_map' f l j]
theorem popOf_I {enc : α → D} {l : List α} {i : Int} : SE (ofOpt (popOf (eL enc l) [.int i])) (R.popI l i) fun a => (enc a.1, eL enc a.2) := by
  have h : popOf (eL enc l) [.int i] = if -4611686018427387904 ≤ i ∧ i < 4611686018427387904 then (ixN (l.map enc).length i).bind fun j => ((l.map enc)[j]?).bind fun y => some (y, D.lst ((l.map enc).eraseIdx j)) else none := rfl
  rw [h, List.length_map]
  unfold R.popI
  by_cases c : -4611686018427387904 ≤ i ∧ i < 4611686018427387904
  · rw [if_pos c, if_pos c]
    cases hj : ixN l.length i with
    | none => trivial
    | some j =>
      simp only [Option.bind_some, List.getElem?_map, ofOpt, R.bind_ok]
      cases hl : l[j]? with
      | none => trivial
      | some y =>
        simp only [Option.map_some, Option.bind_some, R.bind_ok, eraseIdx_map']
        exact SR.ok rfl
  · rw [if_neg c, if_neg c]; trivial
theorem popOf_L {enc : α → D} {l : List α} : SE (ofOpt (popOf (eL enc l) [])) (R.popL l) fun a => (enc a.1, eL enc a.2) := by
  have h : popOf (eL enc l) [] = ((l.map enc).getLast?).bind fun y => some (y, D.lst (l.map enc).dropLast) := rfl
  rw [h, List.getLast?_map]
  unfold R.popL
  cases hl : l.getLast? with
  | none => trivial
  | some y =>
    simp only [Option.map_some, Option.bind_some, ofOpt, R.bind_ok]
    exact SR.of (g := (enc y, D.lst (l.map enc).dropLast)) rfl (by simp [eL])
theorem pop_gen {x : Nat} {enc : α → D} {l : List α} {is : List D} {es : Exs} {mp : R (α × List α)} {e2 : List α → Env} (hx : gt env x = some (eL enc l)) (he : evEs cal es env = .ok (is, env)) (hp : SE (ofOpt (popOf (eL enc l) is)) mp fun a => (enc a.1, eL enc a.2)) (h2 : ∀ l, env.set x (some (eL enc l)) = e2 l) : SE (evE cal (.pop x .nil es) env) mp fun a => (enc a.1, e2 a.2) := by
  rw [evE]
  have hq : pth x (evEs cal .nil) env = .ok ([], env) := pth_nil hx
  rw [hq]
  simp only [R.bind_ok, getv, hx, ofOpt, atPath, Option.bind_some, he]
  refine SR.bindp (g := ()) rfl ?_
  simp only [hx, R.bind_ok]
  refine SR.last hp fun a => ?_
  exact ⟨_, rfl, by rw [h2]⟩
theorem CE.isiA {one : Bool} {ts : List Ty} {a : Ex} {d : D} (h : evE cal a env = .ok (d, env)) : SE (evE cal (.isi a one ts) env) (R.isi ts d) fun b => (eB b, env) := by
  rw [evE, h]
  unfold R.isi
  simp only [R.bind_ok]
  cases isScr d
  · exact SR.ok rfl
  · trivial
theorem CE.isim {one : Bool} {ts : List Ty} {a : Ex} {m : R D} (h : SE (evE cal a env) m fun d => (d, env)) : SE (evE cal (.isi a one ts) env) (m.bind fun d => R.isi ts d) fun b => (eB b, env) := by
  rw [evE]
  refine SR.bind h fun d => ?_
  unfold R.isi
  simp only
  cases isScr d
  · exact SR.ok rfl
  · trivial
theorem CE.popI {x : Nat} {enc : α → D} {l : List α} {i : Int} {e2 : List α → Env} (hx : gt env x = some (eL enc l)) (he : evE cal e env = .ok (.int i, env)) (h2 : ∀ l, env.set x (some (eL enc l)) = e2 l) : SE (evE cal (.pop x .nil (.cons e .nil)) env) (R.popI l i) fun a => (enc a.1, e2 a.2) := pop_gen hx (PEs.cons he PEs.nil) popOf_I h2
theorem CE.popL {x : Nat} {enc : α → D} {l : List α} {e2 : List α → Env} (hx : gt env x = some (eL enc l)) (h2 : ∀ l, env.set x (some (eL enc l)) = e2 l) : SE (evE cal (.pop x .nil .nil) env) (R.popL l) fun a => (enc a.1, e2 a.2) := pop_gen hx PEs.nil popOf_L h2
theorem CE.popm {x : Nat} {enc : α → D} {l : List α} {mi : R Int} {e2 : List α → Env} (hx : gt env x = some (eL enc l)) (he : SE (evE cal e env) mi fun i => (eI i, env)) (h2 : ∀ l, env.set x (some (eL enc l)) = e2 l) : SE (evE cal (.pop x .nil (.cons e .nil)) env) (mi.bind fun i => R.popI l i) fun a => (enc a.1, e2 a.2) := by
  cases mi with
  | bad => trivial
  | exc c d =>
    have he : evE cal e env = .exc c d := he
    show evE cal (.pop x .nil (.cons e .nil)) env = .exc c d
    rw [evE]
    have hp : pth x (evEs cal .nil) env = .ok ([], env) := pth_nil hx
    rw [hp]
    simp only [R.bind_ok, getv, hx, ofOpt, atPath, Option.bind_some]
    rw [evEs, he]
    simp only [isLst, eL, R.bind_ok, R.bind_exc]
  | ok i =>
    obtain ⟨g, g1, rfl⟩ := he
    exact CE.popI hx g1 h2
theorem G.parm {i j : Nat} {a b : Ex} {α γ : Type} {ea : α → D} {eb : γ → D} {ma : R α} {mb : R γ} {kk : α × γ → R β} {e2 : α → γ → Env} (ha : SE (evE cal a env) ma fun x => (ea x, env)) (hb : SE (evE cal b env) mb fun y => (eb y, env)) (h2 : ∀ x y, (env.set i (some (ea x))).set j (some (eb y)) = e2 x y) (g : ∀ x y, SR (andB (evB cal fuel r (e2 x y)) k) (kk (x, y)) Q) : SR (andB (evB cal fuel (.cons (.par i j a b) r) env) k) (ma.bind fun u => mb.bind fun v => (R.ok (u, v)).bind kk) Q := by
  rw [andB_cons, evS, andB, R.bind_assoc]
  refine SR.bind ha fun x => ?_
  rw [R.bind_assoc]
  refine SR.bind hb fun y => ?_
  simp only [R.bind_ok, h2]
  exact g x y
theorem G.setSt {x : Nat} {s : St} {v : Int} {kk : St → R β} {e2 : St → Env} (he : evE cal e env = .ok (.int v, env)) (hx : gt env x = some (eST s)) (hk : evE cal ke env = .ok (.str "at", env)) (h2 : ∀ l, env.set x (some (eST l)) = e2 l) (g : ∀ l, SR (andB (evB cal fuel r (e2 l)) k) (kk l) Q) : SR (andB (evB cal fuel (.cons (.sets true x .nil ke e) r) env) k) ((R.ok (s.1, v)).bind kk) Q := by
  refine G.nx (env1 := e2 (s.1, v)) ?_ (g _)
  rw [evS, he]
  simp only [R.bind_ok]
  rw [pth_nil hx]
  simp only [R.bind_ok, hk, getv, hx, ofOpt, onPath, set_stA, h2]
theorem G.setLm {dd : Bool} {x : Nat} {enc : α → D} {l : List α} {mv : R α} {mk : R Int} {kk : List α → R β} {e2 : List α → Env} (he : SE (evE cal e env) mv fun v => (enc v, env1)) (hk : SE (evE cal ke env1) mk fun i => (eI i, env1)) (hx : gt env1 x = some (eL enc l)) (hx' : gt env1 x = some (eL enc l)) (h2 : ∀ l, env1.set x (some (eL enc l)) = e2 l) (g : ∀ l, SR (andB (evB cal fuel r (e2 l)) k) (kk l) Q) : SR (andB (evB cal fuel (.cons (.sets dd x .nil ke e) r) env) k) ((mv.bind fun v => mk.bind fun i => R.setI l i v).bind kk) Q := by
  refine G.stm (e2 := e2) ?_ g
  rw [evS]
  refine SR.bind he fun v => ?_
  simp only
  rw [pth_nil hx]
  simp only [R.bind_ok]
  refine SR.bind hk fun i => ?_
  simp only [getv, hx, ofOpt, R.bind_ok, onPath]
  unfold R.setI
  cases hj : ixN l.length i with
  | none => trivial
  | some j =>
    have : setAt dd (.int i) (enc v) (eL enc l) = some (eL enc (l.set j v)) := by
      show (ixN (l.map enc).length i).bind _ = _
      rw [List.length_map, hj]
      show some (D.lst ((l.map enc).set j (enc v))) = _
      rw [← List.map_set]; rfl
    simp only [this, ofOpt, R.bind_ok, h2]
    exact SR.ok rfl
theorem G.setKm {x : Nat} {enc : α → D} {l : List (Int × α)} {mv : R α} {mk : R Int} {kk : List (Int × α) → R β} {e2 : List (Int × α) → Env} (he : SE (evE cal e env) mv fun v => (enc v, env1)) (hk : SE (evE cal ke env1) mk fun i => (eI i, env1)) (hx : gt env1 x = some (eDI enc l)) (hx' : gt env1 x = some (eDI enc l)) (h2 : ∀ l, env1.set x (some (eDI enc l)) = e2 l) (g : ∀ l, SR (andB (evB cal fuel r (e2 l)) k) (kk l) Q) : SR (andB (evB cal fuel (.cons (.sets true x .nil ke e) r) env) k) ((mv.bind fun v => mk.bind fun i => R.put l i v).bind kk) Q := by
  refine G.stm (e2 := e2) ?_ g
  rw [evS]
  refine SR.bind he fun v => ?_
  simp only
  rw [pth_nil hx]
  simp only [R.bind_ok]
  refine SR.bind hk fun i => ?_
  simp only [getv, hx, ofOpt, R.bind_ok, onPath]
  exact SR.last op_setDI fun a => ⟨_, rfl, by simp only [h2]⟩
theorem G.setWm {x : Nat} {enc : α → D} {l : List (Str × α)} {mv : R α} {mk : R Str} {kk : List (Str × α) → R β} {e2 : List (Str × α) → Env} (he : SE (evE cal e env) mv fun v => (enc v, env1)) (hk : SE (evE cal ke env1) mk fun i => (eS i, env1)) (hx : gt env1 x = some (eDS enc l)) (hx' : gt env1 x = some (eDS enc l)) (h2 : ∀ l, env1.set x (some (eDS enc l)) = e2 l) (g : ∀ l, SR (andB (evB cal fuel r (e2 l)) k) (kk l) Q) : SR (andB (evB cal fuel (.cons (.sets true x .nil ke e) r) env) k) ((mv.bind fun v => mk.bind fun i => R.put l i v).bind kk) Q := by
  refine G.stm (e2 := e2) ?_ g
  rw [evS]
  refine SR.bind he fun v => ?_
  simp only
  rw [pth_nil hx]
  simp only [R.bind_ok]
  refine SR.bind hk fun i => ?_
  simp only [getv, hx, ofOpt, R.bind_ok, onPath]
  exact SR.last op_setDS fun a => ⟨_, rfl, by simp only [h2]⟩
theorem getAt_L {l : List Int} {i : Int} : SE (ofOpt (getAt (eL eI l) (.int i))) (R.ix l i) eI := by
  have : opF2 .idx (eL eI l) (.int i) = (atI l i).map eI := atI_map l i
  unfold getAt R.ix
  rw [this]
  cases atI l i with
  | none => trivial
  | some z => exact SR.of rfl rfl
theorem getAt_K {l : List (Int × Int)} {i : Int} : SE (ofOpt (getAt (eDI eI l) (.int i))) (R.get l i) eI := by
  have : opF2 .idx (eDI eI l) (.int i) = (getK l i).map eI := valD_I l i
  unfold getAt R.get
  rw [this]
  cases getK l i with
  | none => trivial
  | some z => exact SR.of rfl rfl
theorem setL_op {dd : Bool} {enc : α → D} {l : List α} {i : Int} {v : α} : SE (ofOpt (setAt dd (.int i) (enc v) (eL enc l))) (R.setI l i v) (eL enc) := by
  unfold R.setI
  cases hj : ixN l.length i with
  | none =>
    trivial
  | some j =>
    have : setAt dd (.int i) (enc v) (eL enc l) = some (eL enc (l.set j v)) := by
      show (ixN (l.map enc).length i).bind _ = _
      rw [List.length_map, hj]
      show some (D.lst ((l.map enc).set j (enc v))) = _
      rw [← List.map_set]; rfl
    rw [this]
    exact SR.of rfl rfl
theorem G.augsLm {x : Nat} {o : Op2} {l : List Int} {mk mv : R Int} {no : Int → Int → R Int} {kk : List Int → R β} {e2 : List Int → Env} (hx : gt env x = some (eL eI l)) (hk : SE (evE cal ke env) mk fun i => (eI i, env)) (he : SE (evE cal e env) mv fun v => (eI v, env)) (ho : ∀ z v, SE (ofOpt (opA o (.int z) (.int v))) (no z v) eI) (h2 : ∀ l, env.set x (some (eL eI l)) = e2 l) (g : ∀ l, SR (andB (evB cal fuel r (e2 l)) k) (kk l) Q) : SR (andB (evB cal fuel (.cons (.augs x o .nil ke e) r) env) k) ((mk.bind fun i => (R.ix l i).bind fun z => mv.bind fun v => (no z v).bind fun w => R.setI l i w).bind kk) Q := by
  refine G.stm (e2 := e2) ?_ g
  rw [evS, pth_nil hx]
  simp only [R.bind_ok]
  refine SR.bind hk fun i => ?_
  simp only [getv, hx, ofOpt, R.bind_ok, onPath, atPath, Option.bind_some]
  refine SR.bind getAt_L fun z => ?_
  refine SR.bind he fun v => ?_
  refine SR.bind (ho z v) fun w => ?_
  simp only [hx, ofOpt, R.bind_ok]
  exact SR.last setL_op fun a => ⟨_, rfl, by simp only [h2]⟩
theorem G.augsKm {x : Nat} {o : Op2} {l : List (Int × Int)} {mk mv : R Int} {no : Int → Int → R Int} {kk : List (Int × Int) → R β} {e2 : List (Int × Int) → Env} (hx : gt env x = some (eDI eI l)) (hk : SE (evE cal ke env) mk fun i => (eI i, env)) (he : SE (evE cal e env) mv fun v => (eI v, env)) (ho : ∀ z v, SE (ofOpt (opA o (.int z) (.int v))) (no z v) eI) (h2 : ∀ l, env.set x (some (eDI eI l)) = e2 l) (g : ∀ l, SR (andB (evB cal fuel r (e2 l)) k) (kk l) Q) : SR (andB (evB cal fuel (.cons (.augs x o .nil ke e) r) env) k) ((mk.bind fun i => (R.get l i).bind fun z => mv.bind fun v => (no z v).bind fun w => R.put l i w).bind kk) Q := by
  refine G.stm (e2 := e2) ?_ g
  rw [evS, pth_nil hx]
  simp only [R.bind_ok]
  refine SR.bind hk fun i => ?_
  simp only [getv, hx, ofOpt, R.bind_ok, onPath, atPath, Option.bind_some]
  refine SR.bind getAt_K fun z => ?_
  refine SR.bind he fun v => ?_
  refine SR.bind (ho z v) fun w => ?_
  simp only [hx, ofOpt, R.bind_ok]
  exact SR.last op_setDI fun a => ⟨_, rfl, by simp only [h2]⟩
theorem G.appAt {x : Nat} {enc : α → D} {L : List (List α)} {i : Int} {v : α} {kk : List (List α) → R β} {e2 : List (List α) → Env} (hx : gt env x = some (eL (eL enc) L)) (hk : evE cal ke env = .ok (.int i, env)) (he : evE cal e env = .ok (enc v, env)) (h2 : ∀ l, env.set x (some (eL (eL enc) l)) = e2 l) (g : ∀ l, SR (andB (evB cal fuel r (e2 l)) k) (kk l) Q) : SR (andB (evB cal fuel (.cons (.app x (.cons ke .nil) e) r) env) k) ((R.appAt L i v).bind kk) Q := by
  refine G.stm (e2 := e2) ?_ g
  have hks : evEs cal (.cons ke .nil) env = .ok ([.int i], env) := PEs.cons hk PEs.nil
  unfold R.appAt
  cases hj : ixN L.length i with
  | none => trivial
  | some j =>
    cases hl : L[j]? with
    | none => simp only [ofOpt, R.bind_ok, hl]; trivial
    | some l =>
      simp only [ofOpt, R.bind_ok, hl]
      have hat : atPath (eL (eL enc) L) [.int i] = some (eL enc l) := by
        show (atI (L.map (eL enc)) i).bind _ = _
        unfold atI
        rw [List.length_map, hj]
        simp [hl, atPath]
      have hp : evP cal x (.cons ke .nil) env = .ok ([.int i], env) := by
        show pth x _ env = _
        unfold pth getv
        rw [hx]
        simp only [ofOpt, R.bind_ok, hks, hx, hat]
      rw [evS, hp]
      simp only [R.bind_ok, getv, hx, ofOpt, hat, Option.bind_some, he]
      show SE ((ofOpt (isLst (D.lst (l.map enc)))).bind fun _ => _) _ _
      unfold R.app
      by_cases c : l.length < sizeLine
      · rw [if_pos c]
        have ha : appTo (enc v) (D.lst (l.map enc)) = some (eL enc (l ++ [v])) := by
          show (if (l.map enc).length < sizeLine then some (D.lst (l.map enc ++ [enc v])) else none) = _
          rw [if_pos (by simpa using c), eL, List.map_append]; rfl
        have hon : onPath (appTo (enc v)) (eL (eL enc) L) [.int i] = some (eL (eL enc) (L.set j (l ++ [v]))) := by
          show (ixN (L.map (eL enc)).length i).bind _ = _
          rw [List.length_map, hj]
          simp only [Option.bind_some, List.getElem?_map, hl, Option.map_some, onPath]
          rw [show eL enc l = D.lst (l.map enc) from rfl, ha]
          simp only [Option.bind_some, eL, List.map_set]
        simp only [isLst, ofOpt, R.bind_ok, hon, h2]
        exact SR.ok rfl
      · rw [if_neg c]; trivial
theorem evB_one : evB cal fuel (.cons s .nil) env = evS cal fuel s env := by
  rw [evB_and]
  have : (evB cal fuel .nil) = fun e => .ok (.nx e) := funext fun e => by rw [evB]
  rw [this, andB_nx]
theorem G.alt {i n : Nat} {mj : R σ} {kk : σ → R β} {es : σ → Env} (h : SR (evB cal fuel (.cons s .nil) env) mj fun a f => f = .nx (es a)) (h0 : env.set i none = env) (h1 : ∀ a, (es a).set i none = es a) (g : ∀ a, SR (andB (evB cal fuel r (es a)) k) (kk a) Q) : SR (andB (evB cal fuel (.cons (.alt i n s) r) env) k) (mj.bind kk) Q := by
  refine G.stm (e2 := es) ?_ g
  rw [evS, h0]
  rw [evB_one] at h
  have := SR.bindm (f := fun f => R.ok (clr i f)) (k := fun a => R.ok a) (Q := fun a f => f = .nx (es a)) h fun a f hf => by
    subst hf
    exact SR.ok (by show Fl.nx ((es a).set i none) = _; rw [h1])
  have hh : mj.bind (fun a => .ok a) = mj := R.bind_ok_right mj
  rwa [hh] at this
theorem G.aret {i n : Nat} {b : β} (he : evE cal e env = .ok (d, env1)) (q : Q b (.rt d (env1.set i none))) (h0 : env.set i none = env := by rfl) : SR (andB (evB cal fuel (.cons (.alt i n (.ret e)) r) env) k) (.ok b) Q := by
  rw [andB_cons, evS, h0, evS, he]; exact SR.ok q
theorem G.aretm {i n : Nat} {m1 : R α} {w : α → β} {out : α → D × Env} (he : SE (evE cal e env) m1 out) (q : ∀ a, Q (w a) (.rt (out a).1 ((out a).2.set i none))) (h0 : env.set i none = env := by rfl) : SR (andB (evB cal fuel (.cons (.alt i n (.ret e)) r) env) k) (m1.bind fun a => .ok (w a)) Q := by
  rw [andB_cons, evS, h0, evS, andB, R.bind_assoc, R.bind_assoc]
  refine SR.bind he fun a => ?_
  exact SR.ok (q a)
theorem G.aretm' {i n : Nat} {out : β → D × Env} (he : SE (evE cal e env) m out) (q : ∀ a, Q a (.rt (out a).1 ((out a).2.set i none))) (h0 : env.set i none = env := by rfl) : SR (andB (evB cal fuel (.cons (.alt i n (.ret e)) r) env) k) m Q := by
  have := G.aretm (cal := cal) (fuel := fuel) (r := r) (k := k) (n := n) (w := fun a => a) (Q := Q) he q h0
  have hh : m.bind (fun a => .ok a) = m := R.bind_ok_right m
  rwa [hh] at this
end
end DL
/-! PL4: how plain functions are shown to answer. -/
namespace DL
open PySem PySem.Spec PyProof.Rows L2
def Wp {α : Type} (m : R α) (Q : α → Prop) : Prop := ∃ a, m = .ok a ∧ Q a
section
variable {α β γ σ ρ : Type}
theorem Wp.ok {a : α} {Q : α → Prop} (h : Q a) : Wp (.ok a) Q := ⟨a, rfl, h⟩
theorem Wp.eq {m : R α} {a : α} {Q : α → Prop} (e : m = .ok a) (h : Q a) : Wp m Q := ⟨a, e, h⟩
theorem Wp.bind {m : R α} {f : α → R β} {P : α → Prop} {Q : β → Prop} (h : Wp m P) (g : ∀ a, P a → Wp (f a) Q) : Wp (m.bind f) Q := by
  obtain ⟨a, rfl, p⟩ := h; exact g a p
theorem Wp.bindeq {m : R α} {f : α → R β} {a : α} {Q : β → Prop} (h : m = .ok a) (g : Wp (f a) Q) : Wp (m.bind f) Q := by subst h; exact g
theorem Wp.wk {m : R α} {P Q : α → Prop} (h : Wp m P) (g : ∀ a, P a → Q a) : Wp m Q := by
  obtain ⟨a, e, p⟩ := h; exact ⟨a, e, g a p⟩
theorem Wp.get {m : R α} {a : α} (h : Wp m fun b => b = a) : m = .ok a := by obtain ⟨b, e, rfl⟩ := h; exact e
theorem bindR {m : R α} {a : α} {f : α → R β} (h : m = .ok a) : m.bind f = f a := by subst h; rfl
/-! loops -/
theorem for_inv {f : α → σ → R σ} (I : List α → σ → Prop) (h : ∀ x xs s, I (x :: xs) s → Wp (f x s) (I xs)) : ∀ xs s, I xs s → Wp (R.for_ f xs s) (I [])
  | [], s, i => ⟨s, rfl, i⟩
  | x :: xs, s, i => Wp.bind (h x xs s i) fun s' i' => for_inv I h xs s' i'
theorem for_pre {f : α → σ → R σ} {xs : List α} {s : σ} (I : List α → σ → Prop) (h0 : I [] s) (h : ∀ p x q s, xs = p ++ x :: q → I p s → Wp (f x s) (I (p ++ [x]))) : Wp (R.for_ f xs s) (I xs) := by
  have := for_inv (f := f) (fun ys s => ∃ p, xs = p ++ ys ∧ I p s) (fun x ys s ⟨p, e, i⟩ => (h p x ys s e i).wk fun s' i' => ⟨p ++ [x], by simp [e], i'⟩) xs s ⟨[], rfl, h0⟩
  exact this.wk fun s' ⟨p, e, i⟩ => by simp at e; subst e; exact i
theorem forF_inv {f : α → σ → R (Fw σ ρ)} (I : List α → σ → Prop) (h : ∀ x xs s, I (x :: xs) s → Wp (f x s) fun w => ∃ s', w = .nx s' ∧ I xs s') : ∀ xs s, I xs s → Wp (R.forF f xs s) fun w => ∃ s', w = .inl s' ∧ I [] s'
  | [], s, i => ⟨_, rfl, s, rfl, i⟩
  | x :: xs, s, i => by
    unfold R.forF
    exact Wp.bind (h x xs s i) fun w ⟨s', e, i'⟩ => by subst e; exact forF_inv I h xs s' i'
/-- a loop whose turns all do the same: it never gives back -/
theorem forF_all {f : α → σ → R (Fw σ ρ)} {xs : List α} {s : σ} (I : σ → Prop) (h0 : I s) (h : ∀ x ∈ xs, ∀ s, I s → Wp (f x s) fun w => ∃ s', w = .nx s' ∧ I s') : Wp (R.forF f xs s) fun w => ∃ s', w = .inl s' ∧ I s' := by
  have := forF_inv (f := f) (fun ys s => (∀ y ∈ ys, y ∈ xs) ∧ I s) (fun x ys s ⟨hy, i⟩ => (h x (hy x (by simp)) s i).wk fun w ⟨s', e, i'⟩ => ⟨s', e, fun y q => hy y (by simp [q]), i'⟩) xs s ⟨fun y h => h, h0⟩
  exact this.wk fun w ⟨s', e, _, i⟩ => ⟨s', e, i⟩
theorem thenF_nx {m : R (Sum σ ρ)} {k : σ → R β} {w : ρ → R β} {I : σ → Prop} {Q : β → Prop} (h : Wp m fun z => ∃ s, z = .inl s ∧ I s) (g : ∀ s, I s → Wp (k s) Q) : Wp (R.thenF m k w) Q := by
  obtain ⟨z, rfl, s, rfl, i⟩ := h; exact g s i
/-- a loop that gives back the first thing found -/
theorem forF_find {f : α → σ → R (Fw σ ρ)} {s : σ} (g : α → Option ρ) : ∀ xs : List α, (∀ x ∈ xs, f x s = .ok (match g x with | some r => .rt r | none => .nx s)) → R.forF f xs s = .ok (match xs.findSome? g with | some r => .inr r | none => .inl s)
  | [], _ => rfl
  | x :: xs, h => by
    unfold R.forF
    rw [h x (by simp)]
    simp only [R.bind_ok, List.findSome?_cons]
    cases g x with
    | some r => rfl
    | none => exact forF_find g xs fun y hy => h y (by simp [hy])
theorem mapM_eq {f : α → R β} (g : α → β) : ∀ xs : List α, (∀ x ∈ xs, f x = .ok (g x)) → R.mapM f xs = .ok (xs.map g)
  | [], _ => rfl
  | x :: xs, h => by
    unfold R.mapM
    rw [h x (by simp), mapM_eq g xs fun y hy => h y (by simp [hy])]; rfl
theorem mapM_wp {f : α → R β} (P : α → β → Prop) : ∀ xs : List α, (∀ x ∈ xs, Wp (f x) (P x)) → Wp (R.mapM f xs) fun ys => ys.length = xs.length ∧ ∀ p ∈ xs.zip ys, P p.1 p.2
  | [], _ => ⟨[], rfl, rfl, by simp⟩
  | x :: xs, h => by
    obtain ⟨y, e, p⟩ := h x (by simp)
    obtain ⟨ys, e2, l, q⟩ := mapM_wp P xs fun y hy => h y (by simp [hy])
    refine ⟨y :: ys, by unfold R.mapM; rw [e, e2], by simp [l], ?_⟩
    intro p' hp
    simp only [List.zip_cons_cons, List.mem_cons] at hp
    rcases hp with rfl | hp
    · exact p
    · exact q _ hp
theorem fm_eq {h : α → R (Option β)} (q : α → Bool) (g : α → β) : ∀ xs : List α, (∀ x ∈ xs, h x = .ok (if q x = true then some (g x) else none)) → R.fm h xs = .ok ((xs.filter q).map g)
  | [], _ => rfl
  | x :: xs, hh => by
    unfold R.fm
    rw [hh x (by simp), fm_eq q g xs fun y hy => hh y (by simp [hy]), List.filter_cons]
    cases q x <;> rfl
/-- the usual shape of a comprehension with a test -/
theorem fm_eq2 {c : α → R Bool} {f : α → R β} (q : α → Bool) (g : α → β) (xs : List α) (hc : ∀ x ∈ xs, c x = .ok (q x)) (hf : ∀ x ∈ xs, q x = true → f x = .ok (g x)) : R.fm (fun x => (c x).bind fun b => if b = true then (f x).bind fun y => .ok (some y) else .ok none) xs = .ok ((xs.filter q).map g) :=
  fm_eq q g xs fun x hx => by
    rw [hc x hx]
    cases h : q x with
    | true => simp [hf x hx h]
    | false => simp
theorem sz_ok {l : List α} (h : l.length ≤ 10000000) : R.sz l = .ok l := by unfold R.sz; exact if_pos (Nat.le_trans h (by decide))
theorem app_ok {l : List α} {x : α} (h : l.length ≤ 10000000) : R.app l x = .ok (l ++ [x]) := by unfold R.app; exact if_pos (Nat.lt_of_le_of_lt h (by decide))
theorem rng_ok {lo hi : Int} (h : -1000000 ≤ lo) (h1 : lo ≤ 1000000) (h2 : -1000000 ≤ hi) (h3 : hi ≤ 1000000) : R.rng lo hi = .ok (rangeI lo hi) := by unfold R.rng; exact if_pos (by simp [rngOk]; omega)
theorem rngS_ok {lo hi : Int} (h : -1000000 ≤ lo) (h1 : lo ≤ 1000000) (h2 : -1000000 ≤ hi) (h3 : hi ≤ 1000000) : R.rngS lo hi = .ok (rangeI lo hi) := by unfold R.rngS; exact if_pos (by simp [rngOk]; omega)
theorem rngDn_ok {lo hi : Int} (h : -1000000 ≤ lo) (h1 : lo ≤ 1000000) (h2 : -1000000 ≤ hi) (h3 : hi ≤ 1000000) : R.rngDn lo hi = .ok (rangeD lo hi) := by unfold R.rngDn; exact if_pos (by simp [rngOk]; omega)
theorem rangeI_nat (n : Nat) : rangeI 0 (n : Int) = (List.range n).map fun (i : Nat) => (i : Int) := by
  unfold rangeI
  rw [show ((n : Int) - 0).toNat = n by omega]
  exact List.map_congr_left fun i _ => by omega
theorem rangeI_nat2 (a b : Nat) : rangeI (a : Int) (b : Int) = (List.range' a (b - a)).map fun (i : Nat) => (i : Int) := by
  unfold rangeI
  rw [show ((b : Int) - a).toNat = b - a by omega, List.range'_eq_map_range, List.map_map]
  exact List.map_congr_left fun i _ => by simp
theorem rangeI_len (lo hi : Int) : (rangeI lo hi).length = (hi - lo).toNat := by simp [rangeI]
theorem rangeD_len (lo hi : Int) : (rangeD lo hi).length = (lo - hi).toNat := by simp [rangeD]
theorem mem_rangeI {lo hi i : Int} : i ∈ rangeI lo hi ↔ lo ≤ i ∧ i < hi := by
  unfold rangeI
  rw [List.mem_map]
  constructor
  · rintro ⟨k, hk, rfl⟩; simp at hk; omega
  · intro h; exact ⟨(i - lo).toNat, by simp; omega, by omega⟩
theorem rangeI_succ {lo hi : Int} (h : lo < hi) : rangeI lo hi = lo :: rangeI (lo + 1) hi := by
  unfold rangeI
  obtain ⟨n, hn⟩ : ∃ n, (hi - lo).toNat = n + 1 := ⟨(hi - lo).toNat - 1, by omega⟩
  rw [hn, show (hi - (lo + 1)).toNat = n by omega, List.range_succ_eq_map]
  simp only [List.map_cons, List.map_map]
  congr 1
  · omega
  · exact List.map_congr_left fun i _ => by simp; omega
theorem rangeI_nil {lo hi : Int} (h : hi ≤ lo) : rangeI lo hi = [] := by
  unfold rangeI; rw [show (hi - lo).toNat = 0 by omega]; rfl
theorem rangeD_succ {hi lo : Int} (h : lo < hi) : rangeD hi lo = hi :: rangeD (hi - 1) lo := by
  unfold rangeD
  obtain ⟨n, hn⟩ : ∃ n, (hi - lo).toNat = n + 1 := ⟨(hi - lo).toNat - 1, by omega⟩
  rw [hn, show (hi - 1 - lo).toNat = n by omega, List.range_succ_eq_map]
  simp only [List.map_cons, List.map_map]
  congr 1
  · omega
  · exact List.map_congr_left fun i _ => by simp; omega
theorem rangeD_nil {hi lo : Int} (h : hi ≤ lo) : rangeD hi lo = [] := by
  unfold rangeD; rw [show (hi - lo).toNat = 0 by omega]; rfl
/-- a loop over numbers, with what holds at each -/
theorem for_rng {f : Int → σ → R σ} {lo hi : Int} {s : σ} (I : Int → σ → Prop) (hl : lo ≤ hi) (h0 : I lo s) (h : ∀ i s, lo ≤ i → i < hi → I i s → Wp (f i s) (I (i + 1))) : Wp (R.for_ f (rangeI lo hi) s) (I hi) := by
  have key : ∀ (n : Nat) (i : Int) (s : σ), lo ≤ i → hi - i = n → I i s → Wp (R.for_ f (rangeI i hi) s) (I hi) := by
    intro n
    induction n with
    | zero =>
      intro i s h1 h2 h3
      rw [rangeI_nil (by omega)]
      have : i = hi := by omega
      subst this; exact ⟨s, rfl, h3⟩
    | succ n ih =>
      intro i s h1 h2 h3
      rw [rangeI_succ (by omega)]
      exact Wp.bind (h i s h1 (by omega) h3) fun s' i' => ih (i + 1) s' (by omega) (by omega) i'
  exact key (hi - lo).toNat lo s (Int.le_refl _) (by omega) h0
theorem for_rngD {f : Int → σ → R σ} {lo hi : Int} {s : σ} (I : Int → σ → Prop) (hl : lo ≤ hi) (h0 : I hi s) (h : ∀ i s, lo < i → i ≤ hi → I i s → Wp (f i s) (I (i - 1))) : Wp (R.for_ f (rangeD hi lo) s) (I lo) := by
  have key : ∀ (n : Nat) (i : Int) (s : σ), i ≤ hi → i - lo = n → I i s → Wp (R.for_ f (rangeD i lo) s) (I lo) := by
    intro n
    induction n with
    | zero =>
      intro i s h1 h2 h3
      rw [rangeD_nil (by omega)]
      have : i = lo := by omega
      subst this; exact ⟨s, rfl, h3⟩
    | succ n ih =>
      intro i s h1 h2 h3
      rw [rangeD_succ (by omega)]
      exact Wp.bind (h i s (by omega) h1 h3) fun s' i' => ih (i - 1) s' (by omega) (by omega) i'
  exact key (hi - lo).toNat hi s (Int.le_refl _) (by omega) h0
theorem ixN_nat {n : Nat} {i : Int} (h0 : 0 ≤ i) (h1 : i < n) : ixN n i = some i.toNat := by
  unfold ixN; split <;> first | rfl | omega | (simp; omega)
theorem ix_get {l : List α} {i : Int} {x : α} (h0 : 0 ≤ i) (h : l[i.toNat]? = some x) : R.ix l i = .ok x := by
  have hl : i.toNat < l.length := by
    obtain ⟨q, _⟩ := List.getElem?_eq_some_iff.mp h; exact q
  unfold R.ix atI
  rw [ixN_nat h0 (by omega)]
  simp [h, ofOpt]
theorem ixI_ok {l : List Int} {i : Int} (h0 : 0 ≤ i) (h1 : i < l.length) : R.ix l i = .ok (l.getD i.toNat 0) := by
  refine ix_get h0 ?_
  rw [List.getD_eq_getElem?_getD, List.getElem?_eq_getElem (by omega)]; rfl
theorem ix_nat {l : List Int} {i : Nat} (h1 : i < l.length) : R.ix l (i : Int) = .ok (l.getD i 0) := by
  have := ixI_ok (l := l) (i := (i : Int)) (by omega) (by omega)
  simpa using this
theorem ix_getE {l : List α} {i : Nat} (h1 : i < l.length) : R.ix l (i : Int) = .ok l[i] := ix_get (by omega) (by simp [List.getElem?_eq_getElem h1])
theorem ix_last {l : List α} {x : α} : R.ix (l ++ [x]) (-1) = .ok x := by
  unfold R.ix atI
  have : ixN (l ++ [x]).length (-1) = some l.length := by
    unfold ixN; simp; omega
  rw [this]; simp [ofOpt]
theorem ix_last' {l : List α} {x : α} (h : l.getLast? = some x) : R.ix l (-1) = .ok x := by
  obtain ⟨l', rfl⟩ : ∃ l', l = l' ++ [x] := by
    rcases List.eq_nil_or_concat l with rfl | ⟨l', y, rfl⟩
    · simp at h
    · simp at h; subst h; exact ⟨l', by simp⟩
  exact ix_last
theorem setI_ok {l : List α} {i : Int} {v : α} (h0 : 0 ≤ i) (h1 : i < l.length) : R.setI l i v = .ok (l.set i.toNat v) := by
  unfold R.setI; rw [ixN_nat h0 h1]; rfl
theorem popI_ok {l : List α} {i : Int} {x : α} (h0 : 0 ≤ i) (h2 : i < 1000000) (h : l[i.toNat]? = some x) : R.popI l i = .ok (x, l.eraseIdx i.toNat) := by
  have hl : i.toNat < l.length := by
    obtain ⟨q, _⟩ := List.getElem?_eq_some_iff.mp h; exact q
  unfold R.popI
  rw [if_pos (by omega), ixN_nat h0 (by omega)]
  simp [h, ofOpt]
theorem mul_okl {i j : Int} (h : i.natAbs < 18446744073709551616) : R.mul i j = .ok (i * j) := by unfold R.mul; exact if_pos (by simp [mulOk, h])
theorem mul_okr {i j : Int} (h : j.natAbs < 18446744073709551616) : R.mul i j = .ok (i * j) := by unfold R.mul; exact if_pos (by simp [mulOk, h])
theorem mulA_okl {i j : Int} (h : i.natAbs < 18446744073709551616) : R.mulA i j = .ok (i * j) := by unfold R.mulA; exact if_pos (.inl h)
theorem mulA_okr {i j : Int} (h : j.natAbs < 18446744073709551616) : R.mulA i j = .ok (i * j) := by unfold R.mulA; exact if_pos (.inr h)
theorem mod_ok {i j : Int} (h : 0 < j) : R.mod i j = .ok (i % j) := by unfold R.mod; exact if_pos h
theorem fdiv_okn {i j : Int} (h : 0 < j) (h2 : j < 1000000) : R.fdiv i j = .ok (i / j) := by unfold R.fdiv; exact if_pos ⟨h, by
  have := (Nat.log2_lt (n := j.natAbs) (k := 20) (by omega)).mpr (by omega); omega⟩
theorem fdivA_okn {i j : Int} (h : 0 < j) (h2 : j < 1000000) : R.fdivA i j = .ok (i / j) := by unfold R.fdivA; exact if_pos ⟨h, by omega⟩
theorem cutL_to (xs : List α) (n : Nat) : cutL xs none (some (n : Int)) = xs.take n := by
  unfold cutL
  rw [HT.sIx_nat, HT.sIx_none, List.drop_zero, Nat.sub_zero]
  by_cases c : n ≤ xs.length
  · rw [Nat.min_eq_left c]
  · rw [Nat.min_eq_right (by omega), List.take_of_length_le (Nat.le_refl _), List.take_of_length_le (by omega)]
theorem cutL_from (xs : List α) (n : Nat) : cutL xs (some (n : Int)) none = xs.drop n := by
  unfold cutL
  rw [HT.sIx_nat, HT.sIx_none]
  by_cases c : n ≤ xs.length
  · rw [Nat.min_eq_left c, List.take_of_length_le (by simp)]
  · rw [Nat.min_eq_right (by omega), List.drop_of_length_le (Nat.le_refl _), List.drop_of_length_le (by omega), List.take_nil]
theorem cutL_two (xs : List α) (a b : Nat) (h : a ≤ b) : cutL xs (some (a : Int)) (some (b : Int)) = (xs.take b).drop a := by
  unfold cutL
  rw [HT.sIx_nat, HT.sIx_nat, List.drop_take]
  by_cases c : b ≤ xs.length
  · rw [Nat.min_eq_left c, Nat.min_eq_left (by omega)]
  · rw [Nat.min_eq_right (by omega)]
    by_cases d : a ≤ xs.length
    · rw [Nat.min_eq_left d, List.take_of_length_le (by simp), List.take_of_length_le (by simp; omega)]
    · rw [Nat.min_eq_right (by omega), List.drop_of_length_le (Nat.le_refl _), List.drop_of_length_le (by omega)]; simp
theorem cutL_len {α : Type} (ns : List α) (lo hi : Option Int) : (cutL ns lo hi).length ≤ ns.length := by simp only [cutL, List.length_take, List.length_drop]; omega
/-! data of unknown kind -/
theorem dI_int (i : Int) : dI (eI i) = some i := rfl
theorem mapO_map {f : D → Option α} {e : α → D} (h : ∀ a, f (e a) = some a) : ∀ l : List α, mapO f (l.map e) = some l
  | [] => rfl
  | x :: l => by simp [mapO, h x, mapO_map h l]
theorem dL_ok {f : D → Option α} {e : α → D} (h : ∀ a, f (e a) = some a) (l : List α) : dL f (eL e l) = some l := mapO_map h l
theorem dQ_ok {f : D → Option α} {e : α → D} (h : ∀ a, f (e a) = some a) (l : List α) : dQ f (eQ e l) = some l := mapO_map h l
theorem dLI (l : List Int) : dL dI (eL eI l) = some l := dL_ok dI_int l
theorem dLLI (l : List (List Int)) : dL (dL dI) (eL (eL eI) l) = some l := dL_ok dLI l
/-- what a step gives, as a test of the kernel -/
def isOk {α : Type} [BEq α] (x : R α) (a : α) : Bool := match x with
  | .ok b => b == a
  | _ => false
theorem isOk_ok [BEq α] [LawfulBEq α] {x : R α} {a : α} (h : isOk x a = true) : x = .ok a := by
  unfold isOk at h; split at h
  · rw [eq_of_beq h]
  · simp at h
end
end DL
namespace DL.Law
open PySem PySem.Spec PyProof.Rows L2 DL
def f0 : Fd := { nm := "by_falls", N := ["many", "row", "size", "longer", "at", "_"], np := 1, G := [0, 0, 0, 1, 0, 0], io := [], rt := 0, body := (.cons (.asg (.one 1) (.lst (.cons (.int 1) .nil))) (.cons (.for (.one 2) (.rng2 (.int 2) (.bin .add (.var 0) (.int 1))) (.cons (.asg (.one 3) (.lc (.one 5) (.rng1 (.var 2)) .nil (.int 0))) (.cons (.for (.one 4) (.rng1 (.var 2)) (.cons (.ite (.val (.bin .lt (.var 4) (.b1 .len (.var 1)))) (.cons (.augs 3 .add .nil (.var 4) (.bin .mul (.bin .add (.var 4) (.int 1)) (.bin .idx (.var 1) (.var 4)))) .nil) .nil) (.cons (.ite (.val (.bin .gt (.var 4) (.int 0))) (.cons (.augs 3 .add .nil (.var 4) (.bin .mul (.bin .sub (.var 2) (.var 4)) (.bin .idx (.var 1) (.bin .sub (.var 4) (.int 1))))) (.cons (.kill 4) .nil)) (.cons (.kill 4) .nil)) .nil))) (.cons (.kill 1) (.cons (.kill 2) (.cons (.asg (.one 1) (.mv 3)) .nil)))))) (.cons (.kill 0) (.cons (.ret (.var 1)) .nil)))) }
def f1 : Fd := { nm := "by_inversions", N := ["many", "row", "size", "longer", "at", "more", "_"], np := 1, G := [0, 0, 0, 1, 0, 0, 0], io := [], rt := 0, body := (.cons (.asg (.one 1) (.lst (.cons (.int 1) .nil))) (.cons (.for (.one 2) (.rng2 (.int 2) (.bin .add (.var 0) (.int 1))) (.cons (.asg (.one 3) (.lc (.one 6) (.rng1 (.bin .sub (.bin .add (.b1 .len (.var 1)) (.var 2)) (.int 1))) .nil (.int 0))) (.cons (.for (.one 4) (.rng1 (.b1 .len (.var 1))) (.cons (.for (.one 5) (.rng1 (.var 2)) (.cons (.augs 3 .add .nil (.bin .add (.var 4) (.var 5)) (.bin .idx (.var 1) (.var 4))) (.cons (.kill 5) .nil))) (.cons (.kill 4) .nil))) (.cons (.kill 1) (.cons (.kill 2) (.cons (.asg (.one 1) (.mv 3)) .nil)))))) (.cons (.kill 0) (.cons (.ret (.var 1)) .nil)))) }
def f2 : Fd := { nm := "by_rings", N := ["many", "row", "size", "longer", "at", "_"], np := 1, G := [0, 0, 0, 1, 0, 0], io := [], rt := 0, body := (.cons (.asg (.one 1) (.lst (.cons (.int 1) .nil))) (.cons (.for (.one 2) (.rng2 (.int 1) (.bin .add (.var 0) (.int 1))) (.cons (.asg (.one 3) (.lc (.one 5) (.rng1 (.bin .add (.b1 .len (.var 1)) (.int 1))) .nil (.int 0))) (.cons (.for (.one 4) (.rng1 (.b1 .len (.var 1))) (.cons (.augs 3 .add .nil (.bin .add (.var 4) (.int 1)) (.bin .idx (.var 1) (.var 4))) (.cons (.augs 3 .add .nil (.var 4) (.bin .mul (.bin .sub (.var 2) (.int 1)) (.bin .idx (.var 1) (.var 4)))) (.cons (.kill 4) .nil)))) (.cons (.kill 1) (.cons (.kill 2) (.cons (.asg (.one 1) (.mv 3)) .nil)))))) (.cons (.kill 0) (.cons (.ret (.var 1)) .nil)))) }
def f3 : Fd := { nm := "code", N := ["order", "at", "one"], np := 1, G := [0, 0, 0], io := [], rt := 9, body := (.cons (.ret (.lc (.one 1) (.rng1 (.b1 .len (.var 0))) .nil (.b1 .len (.lc (.one 2) (.it (.slc true false (.var 0) (.bin .add (.var 1) (.int 1)) .non)) (.cons (.val (.bin .lt (.var 2) (.bin .idx (.var 0) (.var 1)))) .nil) (.var 2))))) .nil) }
def f4 : Fd := { nm := "order_of_code", N := ["row", "left", "number"], np := 1, G := [0, 1, 0], io := [], rt := 1, body := (.cons (.asg (.one 1) (.b2 .rng (.int 1) (.bin .add (.b1 .len (.var 0)) (.int 1)))) (.cons (.ret (.lc (.one 2) (.it (.var 0)) .nil (.pop 1 .nil (.cons (.var 2) .nil)))) .nil)) }
def f5 : Fd := { nm := "rings_as_lows", N := ["order", "found", "seen", "rows", "value", "ring", "one"], np := 1, G := [0, 0, 1, 0, 0, 1, 0], io := [], rt := 0, body := (.cons (.asg (.one 1) (.lst .nil)) (.cons (.asg (.one 2) (.dnew false)) (.cons (.asg (.one 3) (.lst .nil)) (.cons (.for (.one 4) (.rng3 (.b1 .len (.var 0)) (.int 0) (.un .neg (.int 1))) (.cons (.ite (.val (.bin .nin (.var 4) (.var 2))) (.cons (.asg (.one 5) (.lst (.cons (.var 4) .nil))) (.cons (.whl (.val (.bin .ne (.bin .idx (.var 0) (.bin .sub (.bin .idx (.var 5) (.un .neg (.int 1))) (.int 1))) (.var 4))) (.cons (.app 5 .nil (.bin .idx (.var 0) (.bin .sub (.bin .idx (.var 5) (.un .neg (.int 1))) (.int 1)))) .nil)) (.cons (.kill 4) (.cons (.for (.one 6) (.it (.var 5)) (.cons (.sets true 2 .nil (.var 6) (.bl true)) (.cons (.kill 6) .nil))) (.cons (.asg (.one 3) (.bin .add (.lst (.cons (.mv 5) .nil)) (.var 3))) .nil))))) (.cons (.kill 4) .nil)) .nil)) (.cons (.kill 0) (.cons (.kill 2) (.cons (.alt 5 0 (.for (.one 5) (.it (.var 3)) (.cons (.asg (.one 1) (.bin .add (.var 1) (.var 5))) (.cons (.kill 5) .nil)))) (.cons (.kill 3) (.cons (.ret (.var 1)) .nil))))))))) }
def f6 : Fd := { nm := "high_ones", N := ["order", "at", "one"], np := 1, G := [0, 0, 0], io := [], rt := 1, body := (.cons (.ret (.lc (.one 1) (.rng1 (.b1 .len (.var 0))) (.cons (.val (.b1 .all (.lc (.one 2) (.it (.slc false true (.var 0) .non (.var 1))) .nil (.bin .gt (.bin .idx (.var 0) (.var 1)) (.var 2))))) .nil) (.var 1))) .nil) }
def f7 : Fd := { nm := "lows_as_rings", N := ["order", "found", "ends", "one", "other", "row", "value", "come", "_"], np := 1, G := [0, 1, 0, 0, 0, 0, 0, 0, 0], io := [], rt := 1, body := (.cons (.asg (.one 1) (.lc (.one 8) (.it (.var 0)) .nil (.int 0))) (.cons (.asg (.one 2) (.bin .add (.call 6 (.cons (.var 0) .nil)) (.lst (.cons (.b1 .len (.var 0)) .nil)))) (.cons (.for (.tup [3, 4]) (.zip (.var 2) (.slc true false (.var 2) (.int 1) .non)) (.cons (.asg (.one 5) (.slc true true (.var 0) (.var 3) (.var 4))) (.cons (.kill 3) (.cons (.kill 4) (.cons (.for (.tup [6, 7]) (.zip (.var 5) (.bin .add (.slc true false (.var 5) (.int 1) .non) (.slc false true (.var 5) .non (.int 1)))) (.cons (.sets true 1 .nil (.bin .sub (.var 6) (.int 1)) (.var 7)) (.cons (.kill 6) (.cons (.kill 7) .nil)))) (.cons (.kill 5) .nil)))))) (.cons (.kill 0) (.cons (.kill 2) (.cons (.ret (.mv 1)) .nil)))))) }
def f8 : Fd := { nm := "up_down", N := ["many", "row", "_", "longer", "value"], np := 1, G := [0, 0, 0, 1, 0], io := [], rt := 9, body := (.cons (.asg (.one 1) (.lst (.cons (.int 1) .nil))) (.cons (.for (.one 2) (.rng2 (.int 1) (.var 0)) (.cons (.kill 2) (.cons (.asg (.one 3) (.lst (.cons (.int 0) .nil))) (.cons (.for (.one 4) (.it (.un .rev (.var 1))) (.cons (.app 3 .nil (.bin .add (.bin .idx (.var 3) (.un .neg (.int 1))) (.var 4))) (.cons (.kill 4) .nil))) (.cons (.kill 1) (.cons (.asg (.one 1) (.mv 3)) .nil)))))) (.cons (.kill 0) (.cons (.ret (.b1 .sum (.var 1))) .nil)))) }
def f9 : Fd := { nm := "_law_draws", N := ["cells", "drawn", "cell", "seed", "k", "stirred"], np := 1, G := [0, 1, 0, 0, 0, 0], io := [], rt := 1, body := (.cons (.asg (.one 1) (.lst .nil)) (.cons (.for (.one 2) (.it (.var 0)) (.cons (.asg (.one 3) (.bin .mod (.b1 .int (.var 2)) (.int 2147483647))) (.cons (.for (.one 4) (.rng1 (.int 40)) (.cons (.asg (.one 3) (.bin .mod (.b1 .int (.bin .add (.bin .add (.bin .mul (.var 3) (.int 48271)) (.int 12345)) (.var 4))) (.int 2147483647))) (.cons (.asg (.one 5) (.bin .mod (.b1 .int (.bin .add (.bin .mul (.var 3) (.int 69621)) (.bin .mul (.int 977) (.var 4)))) (.int 2147483629))) (.cons (.kill 4) (.cons (.app 1 .nil (.ite (.val (.bin .ge (.var 2) (.bin .pow (.int 10) (.int 18)))) (.bin .mod (.b1 .int (.var 2)) (.int 1048576)) (.bin .mod (.b1 .int (.bin .fdiv (.var 5) (.int 3))) (.int 1048576)))) (.cons (.kill 5) (.cons (.asg (.one 2) (.ite (.val (.bin .ge (.var 2) (.bin .pow (.int 10) (.int 18)))) (.bin .fdiv (.var 2) (.int 1048576)) (.var 2))) .nil))))))) (.cons (.kill 2) (.cons (.kill 3) .nil))))) (.cons (.kill 0) (.cons (.ret (.ddsp (.cons (.str "numbers") (.cons (.mv 1) (.cons (.str "at") (.cons (.int 0) .nil)))))) .nil)))) }
def f10 : Fd := { nm := "_law_next", N := ["state", "top", "number"], np := 2, G := [1, 0, 0], io := [true], rt := 1, body := (.cons (.asg (.one 2) (.bin .add (.bin .idx (.bin .idx (.var 0) (.str "numbers")) (.bin .mod (.b1 .int (.bin .idx (.var 0) (.str "at"))) (.b1 .len (.bin .idx (.var 0) (.str "numbers"))))) (.bin .fdiv (.b1 .int (.bin .idx (.var 0) (.str "at"))) (.b1 .len (.bin .idx (.var 0) (.str "numbers")))))) (.cons (.sets true 0 .nil (.str "at") (.bin .add (.bin .idx (.var 0) (.str "at")) (.int 1))) (.cons (.ret (.bin .mod (.b1 .int (.var 2)) (.var 1))) .nil))) }
def f11 : Fd := { nm := "_law_copied", N := ["value", "parts", "one", "key"], np := 1, G := [0, 0, 0, 0], io := [], rt := 0, body := (.cons (.ite (.or (.cons (.val (.isi (.var 0) true [.list])) (.cons (.val (.isi (.var 0) true [.tuple])) .nil))) (.cons (.asg (.one 1) (.lc (.one 2) (.it (.var 0)) .nil (.call 11 (.cons (.var 2) .nil)))) (.cons (.ret (.ite (.val (.isi (.var 0) true [.tuple])) (.b1 .tuple (.var 1)) (.var 1))) .nil)) .nil) (.cons (.ret (.ite (.val (.isi (.var 0) true [.dict])) (.b1 .dict (.lc (.one 3) (.it (.var 0)) .nil (.tup (.cons (.var 3) (.cons (.call 11 (.cons (.bin .idx (.var 0) (.var 3)) .nil)) .nil))))) (.var 0))) .nil)) }
def f12 : Fd := { nm := "_law_same", N := ["one", "other", "k", "key"], np := 2, G := [0, 0, 0, 0], io := [], rt := 0, body := (.cons (.ite (.and (.cons (.val (.isi (.var 0) true [.dict])) (.cons (.val (.isi (.var 1) true [.dict])) .nil))) (.cons (.ret (.band (.cons (.bin .eq (.b1 .len (.var 0)) (.b1 .len (.var 1))) (.cons (.b1 .all (.lc (.one 3) (.it (.var 0)) .nil (.band (.cons (.bin .inn (.var 3) (.var 1)) (.cons (.call 12 (.cons (.bin .idx (.var 0) (.var 3)) (.cons (.bin .idx (.var 1) (.var 3)) .nil))) .nil))))) .nil)))) .nil) .nil) (.cons (.ite (.and (.cons (.val (.isi (.var 0) false [.list, .tuple])) (.cons (.val (.isi (.var 1) false [.list, .tuple])) .nil))) (.cons (.ite (.or (.cons (.val (.bin .ne (.isi (.var 0) true [.list]) (.isi (.var 1) true [.list]))) (.cons (.val (.bin .ne (.b1 .len (.var 0)) (.b1 .len (.var 1)))) .nil))) (.cons (.kill 0) (.cons (.kill 1) (.cons (.ret (.bl false)) .nil))) .nil) (.cons (.ret (.b1 .all (.lc (.one 2) (.rng1 (.b1 .len (.var 0))) .nil (.call 12 (.cons (.bin .idx (.var 0) (.var 2)) (.cons (.bin .idx (.var 1) (.var 2)) .nil)))))) .nil)) .nil) (.cons (.ret (.band (.cons (.bin .eq (.isi (.var 0) true [.bool]) (.isi (.var 1) true [.bool])) (.cons (.bin .eq (.var 0) (.var 1)) .nil)))) .nil))) }
def f13 : Fd := { nm := "_law_order", N := ["state", "many", "left", "found", "turn", "at"], np := 2, G := [1, 0, 0, 1, 0, 0], io := [true], rt := 1, body := (.cons (.asg (.one 2) (.b2 .rng (.int 1) (.bin .add (.var 1) (.int 1)))) (.cons (.asg (.one 3) (.lst .nil)) (.cons (.for (.one 4) (.rng1 (.var 1)) (.cons (.kill 4) (.cons (.asg (.one 5) (.call 10 (.cons (.io 0) (.cons (.b1 .len (.var 2)) .nil)))) (.cons (.app 3 .nil (.bin .idx (.var 2) (.var 5))) (.cons (.asg (.one 2) (.bin .add (.slc false true (.var 2) .non (.var 5)) (.slc true false (.var 2) (.bin .add (.var 5) (.int 1)) .non))) (.cons (.kill 5) .nil)))))) (.cons (.kill 1) (.cons (.kill 2) (.cons (.ret (.mv 3)) .nil)))))) }
def f14 : Fd := { nm := "_law_any_order", N := ["state", "most", "word"], np := 2, G := [1, 0, 0], io := [true], rt := 0, body := (.cons (.asg (.one 2) (.call 10 (.cons (.io 0) (.cons (.int 4) .nil)))) (.cons (.ite (.val (.bin .eq (.var 2) (.int 0))) (.cons (.kill 2) (.cons (.ret (.call 15 (.cons (.io 0) (.cons (.var 1) .nil)))) .nil)) (.cons (.kill 2) .nil)) (.cons (.ret (.call 13 (.cons (.io 0) (.cons (.call 10 (.cons (.io 0) (.cons (.bin .add (.var 1) (.int 1)) .nil))) .nil)))) .nil))) }
def f15 : Fd := { nm := "_law_made", N := ["state", "most", "found", "turn", "at", "value", "word", "wide", "one"], np := 2, G := [1, 0, 0, 0, 0, 0, 0, 0, 0], io := [true], rt := 0, body := (.cons (.asg (.one 2) (.lst (.cons (.int 1) .nil))) (.cons (.for (.one 3) (.rng1 (.bin .sub (.var 1) (.int 1))) (.cons (.kill 3) (.cons (.asg (.one 4) (.call 10 (.cons (.io 0) (.cons (.b1 .len (.var 2)) .nil)))) (.cons (.asg (.one 5) (.bin .idx (.var 2) (.var 4))) (.cons (.asg (.one 6) (.call 10 (.cons (.io 0) (.cons (.int 3) .nil)))) (.cons (.ite (.val (.bin .lt (.var 6) (.int 2))) (.cons (.asg (.one 7) (.lc (.one 8) (.it (.var 2)) .nil (.bin .add (.var 8) (.b1 .int (.bin .gt (.var 8) (.var 5)))))) (.cons (.kill 2) (.cons (.asg (.one 2) (.bin .add (.bin .add (.slc false true (.var 7) .non (.var 4)) (.ite (.val (.bin .eq (.var 6) (.int 0))) (.lst (.cons (.var 5) (.cons (.bin .add (.var 5) (.int 1)) .nil))) (.lst (.cons (.bin .add (.var 5) (.int 1)) (.cons (.var 5) .nil))))) (.slc true false (.var 7) (.bin .add (.var 4) (.int 1)) .non))) (.cons (.kill 4) (.cons (.kill 5) (.cons (.kill 6) (.cons (.kill 7) .nil))))))) (.cons (.kill 4) (.cons (.kill 5) (.cons (.kill 6) .nil)))) .nil)))))) (.cons (.kill 1) (.cons (.ret (.var 2)) .nil)))) }
def f16 : Fd := { nm := "_law_all_orders", N := ["many", "found", "one", "longer", "order", "at"], np := 1, G := [0, 0, 0, 0, 0, 0], io := [], rt := 1, body := (.cons (.asg (.one 1) (.lst (.cons (.lst .nil) .nil))) (.cons (.for (.one 2) (.rng2 (.int 1) (.bin .add (.var 0) (.int 1))) (.cons (.asg (.one 3) (.lst .nil)) (.cons (.for (.one 4) (.it (.var 1)) (.cons (.asg (.one 3) (.bin .add (.var 3) (.lc (.one 5) (.rng1 (.bin .add (.b1 .len (.var 4)) (.int 1))) .nil (.bin .add (.bin .add (.slc false true (.var 4) .non (.var 5)) (.lst (.cons (.var 2) .nil))) (.slc true false (.var 4) (.var 5) .non))))) (.cons (.kill 4) .nil))) (.cons (.kill 1) (.cons (.kill 2) (.cons (.asg (.one 1) (.var 3)) (.cons (.kill 3) .nil))))))) (.cons (.kill 0) (.cons (.ret (.b1 .sorted (.var 1))) .nil)))) }
def f17 : Fd := { nm := "_law_falls_of", N := ["order", "at"], np := 1, G := [0, 0], io := [], rt := 9, body := (.cons (.ret (.b1 .len (.lc (.one 1) (.rng1 (.bin .sub (.b1 .len (.var 0)) (.int 1))) (.cons (.val (.bin .gt (.bin .idx (.var 0) (.var 1)) (.bin .idx (.var 0) (.bin .add (.var 1) (.int 1))))) .nil) (.int 1)))) .nil) }
def f18 : Fd := { nm := "_law_turned", N := ["order", "at", "one"], np := 1, G := [0, 0, 0], io := [], rt := 9, body := (.cons (.ret (.b1 .sum (.lc (.one 1) (.rng1 (.b1 .len (.var 0))) .nil (.b1 .len (.lc (.one 2) (.it (.slc true false (.var 0) (.bin .add (.var 1) (.int 1)) .non)) (.cons (.val (.bin .lt (.var 2) (.bin .idx (.var 0) (.var 1)))) .nil) (.int 1)))))) .nil) }
def f19 : Fd := { nm := "_law_rings", N := ["order", "found", "met", "value", "ring", "turn"], np := 1, G := [0, 0, 1, 0, 1, 0], io := [], rt := 0, body := (.cons (.par 1 2 (.lst .nil) (.lst .nil)) (.cons (.for (.one 3) (.rng3 (.b1 .len (.var 0)) (.int 0) (.un .neg (.int 1))) (.cons (.asg (.one 4) (.lst .nil)) (.cons (.for (.one 5) (.rng1 (.b1 .len (.var 0))) (.cons (.kill 5) (.cons (.ite (.val (.bin .nin (.var 3) (.var 2))) (.cons (.app 2 .nil (.var 3)) (.cons (.app 4 .nil (.var 3)) (.cons (.asg (.one 3) (.bin .idx (.var 0) (.bin .sub (.var 3) (.int 1)))) .nil))) .nil) .nil))) (.cons (.kill 3) (.cons (.ite (.val (.bin .gt (.b1 .len (.var 4)) (.int 0))) (.cons (.asg (.one 1) (.bin .add (.lst (.cons (.mv 4) .nil)) (.var 1))) .nil) (.cons (.kill 4) .nil)) .nil))))) (.cons (.kill 0) (.cons (.kill 2) (.cons (.ret (.var 1)) .nil))))) }
def f20 : Fd := { nm := "_law_counts", N := ["numbers", "k"], np := 1, G := [0, 0], io := [], rt := 9, body := (.cons (.ret (.lc (.one 1) (.rng1 (.bin .add (.b1 .max (.var 0)) (.int 1))) .nil (.m1 .count (.var 0) (.var 1)))) .nil) }
def f21 : Fd := { nm := "law", N := ["script", "state", "many", "every", "turns", "turn", "order", "handed", "row", "drawn", "rings", "line", "ring", "at", "one"], np := 1, G := [0, 1, 0, 0, 0, 0, 0, 0, 0, 0, 0, 0, 0, 0, 0], io := [], rt := 9, body := (.cons (.asg (.one 1) (.call 9 (.cons (.bin .add (.slc false true (.var 0) .non (.int 24)) (.lst (.cons (.int 977) .nil))) .nil))) (.cons (.kill 0) (.cons (.asg (.one 2) (.bin .add (.int 1) (.call 10 (.cons (.io 1) (.cons (.int 6) .nil))))) (.cons (.asg (.one 3) (.call 16 (.cons (.var 2) .nil))) (.cons (.ite (.or (.cons (.val (.bin .ne (.call 0 (.cons (.var 2) .nil)) (.call 20 (.cons (.lc (.one 6) (.it (.var 3)) .nil (.call 17 (.cons (.var 6) .nil))) .nil)))) (.cons (.val (.bin .ne (.call 1 (.cons (.var 2) .nil)) (.call 20 (.cons (.lc (.one 6) (.it (.var 3)) .nil (.call 18 (.cons (.var 6) .nil))) .nil)))) .nil))) (.cons (.kill 1) (.cons (.kill 2) (.cons (.kill 3) (.cons (.ret (.bl false)) .nil)))) .nil) (.cons (.ite (.val (.bin .ne (.call 2 (.cons (.var 2) .nil)) (.call 20 (.cons (.lc (.one 6) (.it (.var 3)) .nil (.b1 .len (.call 19 (.cons (.var 6) .nil)))) .nil)))) (.cons (.kill 1) (.cons (.kill 2) (.cons (.kill 3) (.cons (.ret (.bl false)) .nil)))) .nil) (.cons (.asg (.one 4) (.lc (.one 6) (.it (.var 3)) (.cons (.val (.b1 .all (.lc (.one 13) (.rng1 (.bin .sub (.var 2) (.int 1))) .nil (.bin .eq (.bin .lt (.bin .idx (.var 6) (.var 13)) (.bin .idx (.var 6) (.bin .add (.var 13) (.int 1)))) (.bin .eq (.bin .mod (.b1 .int (.var 13)) (.int 2)) (.int 0)))))) .nil) (.var 6))) (.cons (.kill 3) (.cons (.ite (.val (.bin .ne (.call 8 (.cons (.var 2) .nil)) (.b1 .len (.var 4)))) (.cons (.kill 1) (.cons (.kill 2) (.cons (.kill 4) (.cons (.ret (.bl false)) .nil)))) (.cons (.kill 2) (.cons (.kill 4) .nil))) (.cons (.for (.one 5) (.rng1 (.int 3)) (.cons (.kill 5) (.cons (.asg (.one 6) (.call 14 (.cons (.io 1) (.cons (.int 9) .nil)))) (.cons (.asg (.one 7) (.call 11 (.cons (.var 6) .nil))) (.cons (.asg (.one 8) (.lc (.one 13) (.rng1 (.b1 .len (.var 6))) .nil (.b1 .len (.lc (.one 14) (.it (.slc true false (.var 6) (.bin .add (.var 13) (.int 1)) .non)) (.cons (.val (.bin .lt (.var 14) (.bin .idx (.var 6) (.var 13)))) .nil) (.int 1))))) (.cons (.ite (.or (.cons (.val (.bin .ne (.call 3 (.cons (.var 7) .nil)) (.var 8))) (.cons (.val (.bin .ne (.call 4 (.cons (.b1 .list (.var 8)) .nil)) (.var 6))) .nil))) (.cons (.kill 1) (.cons (.kill 6) (.cons (.kill 7) (.cons (.kill 8) (.cons (.ret (.bl false)) .nil))))) (.cons (.kill 8) .nil)) (.cons (.asg (.one 9) (.lc (.one 13) (.rng1 (.b1 .len (.var 6))) .nil (.call 10 (.cons (.io 1) (.cons (.bin .sub (.b1 .len (.var 6)) (.var 13)) .nil))))) (.cons (.ite (.val (.bin .ne (.call 3 (.cons (.call 4 (.cons (.b1 .list (.var 9)) .nil)) .nil)) (.var 9))) (.cons (.kill 1) (.cons (.kill 6) (.cons (.kill 7) (.cons (.kill 9) (.cons (.ret (.bl false)) .nil))))) (.cons (.kill 9) .nil)) (.cons (.asg (.one 10) (.call 19 (.cons (.var 6) .nil))) (.cons (.asg (.one 11) (.lst .nil)) (.cons (.for (.one 12) (.it (.var 10)) (.cons (.asg (.one 11) (.bin .add (.var 11) (.var 12))) (.cons (.kill 12) .nil))) (.cons (.ite (.or (.cons (.val (.bin .ne (.call 5 (.cons (.var 7) .nil)) (.var 11))) (.cons (.val (.bin .ne (.call 7 (.cons (.b1 .list (.var 11)) .nil)) (.var 6))) (.cons (.val (.bin .ne (.call 5 (.cons (.call 7 (.cons (.var 7) .nil)) .nil)) (.var 6))) .nil)))) (.cons (.kill 1) (.cons (.kill 6) (.cons (.kill 7) (.cons (.kill 10) (.cons (.kill 11) (.cons (.ret (.bl false)) .nil)))))) .nil) (.cons (.ite (.or (.cons (.val (.bin .ne (.b1 .len (.call 6 (.cons (.b1 .list (.var 11)) .nil))) (.b1 .len (.var 10)))) (.cons (.nt (.val (.call 12 (.cons (.var 7) (.cons (.var 6) .nil))))) .nil))) (.cons (.kill 1) (.cons (.kill 6) (.cons (.kill 7) (.cons (.kill 10) (.cons (.kill 11) (.cons (.ret (.bl false)) .nil)))))) (.cons (.kill 6) (.cons (.kill 7) (.cons (.kill 10) (.cons (.kill 11) .nil))))) .nil))))))))))))) (.cons (.kill 1) (.cons (.ret (.bl true)) .nil)))))))))))) }
def tbl : List Fd := [f0, f1, f2, f3, f4, f5, f6, f7, f8, f9, f10, f11, f12, f13, f14, f15, f16, f17, f18, f19, f20, f21]
def Pl.by_falls (many : Int) : R (List Int) :=
 (R.ok ([(1 : Int)])).bind fun row =>
 (R.rng (2 : Int) (many + (1 : Int))).bind fun xs => (R.for_ (fun size row =>
 ((R.rng 0 size).bind fun xs => R.sz (xs.map fun u_ => (0 : Int))).bind fun longer =>
 (R.rng 0 size).bind fun xs => (R.for_ (fun at_ longer =>
 (if (decide (at_ < (row.length : Int))) = true then
 (((R.ok at_).bind fun t5 => (R.ix longer t5).bind fun t3 => (((R.ix row at_)).bind fun t2 => (R.mul (at_ + (1 : Int)) t2)).bind fun t4 => (R.ok (t3 + t4)).bind fun t6 => R.setI longer t5 t6).bind fun longer =>
 R.ok longer)
 else
 (R.ok longer) : R (List Int)).bind fun longer =>
 if (decide (at_ > (0 : Int))) = true then
 ((R.ok at_).bind fun t11 => (R.ix longer t11).bind fun t9 => (((R.ix row (at_ - (1 : Int)))).bind fun t8 => (R.mul (size - at_) t8)).bind fun t10 => (R.ok (t9 + t10)).bind fun t12 => R.setI longer t11 t12).bind fun longer =>
 R.ok longer
 else
 R.ok longer) xs longer).bind fun longer =>
 (R.ok longer).bind fun row =>
 R.ok row) xs row).bind fun row =>
 R.ok row
theorem S.by_falls_ok {k : Nat} (many : Int) : SE (callN tbl 100 (k + 1) 0 [eI many]) (Pl.by_falls many) (fun b => ((eL eI) b, [])) := by
  unfold Pl.by_falls
  exact run_ok (k := k + 0) (fd := f0) (b := f0.body) (env := [some (eI many), none, none, none, none, none]) rfl rfl rfl rfl (G.start (
 G.asgm (e2 := (fun a : (List Int) => [some (eI many), some ((eL eI) a), none, none, none, none])) (SE.by_ (fun a => ((eL eI) a, [some (eI many), none, none, none, none, none])) (SR.of (PE.lst (PEs.cons PE.int PEs.nil)) rfl)) (fun _ => rfl) (fun row =>
 G.for_ (es := (fun a : (List Int) => [some (eI many), some ((eL eI) a), none, none, none, none])) row (W.rng2 PE.int (PE.bin (PE.var (d := eI many) rfl) PE.int (show opF2 .add (.int _) (.int _) = some (.int _) from rfl))) rfl (fun size row => SR.bindp (g := [some (eI many), some ((eL eI) row), some (eI size), none, none, none]) rfl (G.start (
 G.asgm (e2 := (fun a : (List Int) => [some (eI many), some ((eL eI) row), some (eI size), some ((eL eI) a), none, none])) (CE.lcmp (gE := eI) (enc := eI) (f := fun u_ => (0 : Int)) (U := [some (eI many), some ((eL eI) row), some (eI size), none, none, none]) (E := (fun u_ => [some (eI many), some ((eL eI) row), some (eI size), none, none, some (eI u_)])) (W.rng1 (PE.var (d := eI size) rfl)) rfl (fun _ => rfl) (fun u_ => PE.int) (fun _ => rfl) rfl) (fun _ => rfl) (fun longer =>
 G.for_ (es := (fun a : (List Int) => [some (eI many), some ((eL eI) row), some (eI size), some ((eL eI) a), none, none])) longer (W.rng1 (PE.var (d := eI size) rfl)) rfl (fun at_ longer => SR.bindp (g := [some (eI many), some ((eL eI) row), some (eI size), some ((eL eI) longer), some (eI at_), none]) rfl (G.start (
 G.join (es := (fun a : (List Int) => [some (eI many), some ((eL eI) row), some (eI size), some ((eL eI) a), some (eI at_), none])) (J.ite (PT.val (PE.bin (PE.var (d := eI at_) rfl) (PE.b1 (PE.var (d := (eL eI) row) rfl) (op_lenL (e := eI) row)) (show opF2 .lt (.int _) (.int _) = some (.bl _) from rfl))) (G.start (
 G.augsLm (no := fun t3 t4 => R.ok (t3 + t4)) (e2 := fun a => [some (eI many), some ((eL eI) row), some (eI size), some ((eL eI) a), some (eI at_), none]) rfl (SE.by_ (fun a => (eI a, [some (eI many), some ((eL eI) row), some (eI size), some ((eL eI) longer), some (eI at_), none])) (SR.of (PE.var (d := eI at_) rfl) rfl)) (SE.by_ (fun a : Int => (eI a, [some (eI many), some ((eL eI) row), some (eI size), some ((eL eI) longer), some (eI at_), none])) (CE.bin (SR.bindp (PE.bin (PE.var (d := eI at_) rfl) PE.int (show opF2 .add (.int _) (.int _) = some (.int _) from rfl)) (SR.bind (SE.by_ (fun a : Int => (eI a, [some (eI many), some ((eL eI) row), some (eI size), some ((eL eI) longer), some (eI at_), none])) (CE.bin (SR.bindp (PE.var (d := (eL eI) row) rfl) (SR.bindp (PE.var (d := eI at_) rfl) (SR.last (op_ixL (e := eI) (l := row) (i := at_)) fun _ => ⟨_, rfl, rfl⟩))))) fun t2 => SR.last (op_mul (i := (at_ + (1 : Int))) (j := t2)) fun _ => ⟨_, rfl, rfl⟩)))) (fun _ _ => opA_addp) (fun _ => rfl) (fun longer =>
 G.nil (SR.ok rfl)))) (G.start (
 G.nil (SR.ok rfl)))) (fun longer =>
 G.ite (PT.val (PE.bin (PE.var (d := eI at_) rfl) PE.int (show opF2 .gt (.int _) (.int _) = some (.bl _) from rfl))) (
 G.augsLm (no := fun t9 t10 => R.ok (t9 + t10)) (e2 := fun a => [some (eI many), some ((eL eI) row), some (eI size), some ((eL eI) a), some (eI at_), none]) rfl (SE.by_ (fun a => (eI a, [some (eI many), some ((eL eI) row), some (eI size), some ((eL eI) longer), some (eI at_), none])) (SR.of (PE.var (d := eI at_) rfl) rfl)) (SE.by_ (fun a : Int => (eI a, [some (eI many), some ((eL eI) row), some (eI size), some ((eL eI) longer), some (eI at_), none])) (CE.bin (SR.bindp (PE.bin (PE.var (d := eI size) rfl) (PE.var (d := eI at_) rfl) (show opF2 .sub (.int _) (.int _) = some (.int _) from rfl)) (SR.bind (SE.by_ (fun a : Int => (eI a, [some (eI many), some ((eL eI) row), some (eI size), some ((eL eI) longer), some (eI at_), none])) (CE.bin (SR.bindp (PE.var (d := (eL eI) row) rfl) (SR.bindp (PE.bin (PE.var (d := eI at_) rfl) PE.int (show opF2 .sub (.int _) (.int _) = some (.int _) from rfl)) (SR.last (op_ixL (e := eI) (l := row) (i := (at_ - (1 : Int)))) fun _ => ⟨_, rfl, rfl⟩))))) fun t8 => SR.last (op_mul (i := (size - at_)) (j := t8)) fun _ => ⟨_, rfl, rfl⟩)))) (fun _ _ => opA_addp) (fun _ => rfl) (fun longer =>
 G.kill (env1 := [some (eI many), some ((eL eI) row), some (eI size), some ((eL eI) longer), none, none]) rfl (G.nil (G.nil (SR.ok (.inl rfl)))))) (
 G.kill (env1 := [some (eI many), some ((eL eI) row), some (eI size), some ((eL eI) longer), none, none]) rfl (G.nil (G.nil (SR.ok (.inl rfl))))))))) (fun longer =>
 G.kill (env1 := [some (eI many), none, some (eI size), some ((eL eI) longer), none, none]) rfl (G.kill (env1 := [some (eI many), none, none, some ((eL eI) longer), none, none]) rfl (G.asgm (e2 := (fun a : (List Int) => [some (eI many), some ((eL eI) a), none, none, none, none])) (SE.by_ (fun a => ((eL eI) a, [some (eI many), none, none, none, none, none])) (SR.of rfl rfl)) (fun _ => rfl) (fun row =>
 G.nil (SR.ok (.inl rfl)))))))))) (fun row =>
 G.kill (env1 := [none, some ((eL eI) row), none, none, none, none]) rfl (G.ret (PE.var (d := (eL eI) row) rfl) (TQ.rt rfl))))))
def Pl.by_inversions (many : Int) : R (List Int) :=
 (R.ok ([(1 : Int)])).bind fun row =>
 (R.rng (2 : Int) (many + (1 : Int))).bind fun xs => (R.for_ (fun size row =>
 ((R.rng 0 (((row.length : Int) + size) - (1 : Int))).bind fun xs => R.sz (xs.map fun u_ => (0 : Int))).bind fun longer =>
 (R.rng 0 (row.length : Int)).bind fun xs => (R.for_ (fun at_ longer =>
 (R.rng 0 size).bind fun xs => (R.for_ (fun more longer =>
 ((R.ok (at_ + more)).bind fun t3 => (R.ix longer t3).bind fun t1 => ((R.ix row at_)).bind fun t2 => (R.ok (t1 + t2)).bind fun t4 => R.setI longer t3 t4).bind fun longer =>
 R.ok longer) xs longer).bind fun longer =>
 R.ok longer) xs longer).bind fun longer =>
 (R.ok longer).bind fun row =>
 R.ok row) xs row).bind fun row =>
 R.ok row
theorem S.by_inversions_ok {k : Nat} (many : Int) : SE (callN tbl 100 (k + 1) 1 [eI many]) (Pl.by_inversions many) (fun b => ((eL eI) b, [])) := by
  unfold Pl.by_inversions
  exact run_ok (k := k + 0) (fd := f1) (b := f1.body) (env := [some (eI many), none, none, none, none, none, none]) rfl rfl rfl rfl (G.start (
 G.asgm (e2 := (fun a : (List Int) => [some (eI many), some ((eL eI) a), none, none, none, none, none])) (SE.by_ (fun a => ((eL eI) a, [some (eI many), none, none, none, none, none, none])) (SR.of (PE.lst (PEs.cons PE.int PEs.nil)) rfl)) (fun _ => rfl) (fun row =>
 G.for_ (es := (fun a : (List Int) => [some (eI many), some ((eL eI) a), none, none, none, none, none])) row (W.rng2 PE.int (PE.bin (PE.var (d := eI many) rfl) PE.int (show opF2 .add (.int _) (.int _) = some (.int _) from rfl))) rfl (fun size row => SR.bindp (g := [some (eI many), some ((eL eI) row), some (eI size), none, none, none, none]) rfl (G.start (
 G.asgm (e2 := (fun a : (List Int) => [some (eI many), some ((eL eI) row), some (eI size), some ((eL eI) a), none, none, none])) (CE.lcmp (gE := eI) (enc := eI) (f := fun u_ => (0 : Int)) (U := [some (eI many), some ((eL eI) row), some (eI size), none, none, none, none]) (E := (fun u_ => [some (eI many), some ((eL eI) row), some (eI size), none, none, none, some (eI u_)])) (W.rng1 (PE.bin (PE.bin (PE.b1 (PE.var (d := (eL eI) row) rfl) (op_lenL (e := eI) row)) (PE.var (d := eI size) rfl) (show opF2 .add (.int _) (.int _) = some (.int _) from rfl)) PE.int (show opF2 .sub (.int _) (.int _) = some (.int _) from rfl))) rfl (fun _ => rfl) (fun u_ => PE.int) (fun _ => rfl) rfl) (fun _ => rfl) (fun longer =>
 G.for_ (es := (fun a : (List Int) => [some (eI many), some ((eL eI) row), some (eI size), some ((eL eI) a), none, none, none])) longer (W.rng1 (PE.b1 (PE.var (d := (eL eI) row) rfl) (op_lenL (e := eI) row))) rfl (fun at_ longer => SR.bindp (g := [some (eI many), some ((eL eI) row), some (eI size), some ((eL eI) longer), some (eI at_), none, none]) rfl (G.start (
 G.for_ (es := (fun a : (List Int) => [some (eI many), some ((eL eI) row), some (eI size), some ((eL eI) a), some (eI at_), none, none])) longer (W.rng1 (PE.var (d := eI size) rfl)) rfl (fun more longer => SR.bindp (g := [some (eI many), some ((eL eI) row), some (eI size), some ((eL eI) longer), some (eI at_), some (eI more), none]) rfl (G.start (
 G.augsLm (no := fun t1 t2 => R.ok (t1 + t2)) (e2 := fun a => [some (eI many), some ((eL eI) row), some (eI size), some ((eL eI) a), some (eI at_), some (eI more), none]) rfl (SE.by_ (fun a => (eI a, [some (eI many), some ((eL eI) row), some (eI size), some ((eL eI) longer), some (eI at_), some (eI more), none])) (SR.of (PE.bin (PE.var (d := eI at_) rfl) (PE.var (d := eI more) rfl) (show opF2 .add (.int _) (.int _) = some (.int _) from rfl)) rfl)) (SE.by_ (fun a : Int => (eI a, [some (eI many), some ((eL eI) row), some (eI size), some ((eL eI) longer), some (eI at_), some (eI more), none])) (CE.bin (SR.bindp (PE.var (d := (eL eI) row) rfl) (SR.bindp (PE.var (d := eI at_) rfl) (SR.last (op_ixL (e := eI) (l := row) (i := at_)) fun _ => ⟨_, rfl, rfl⟩))))) (fun _ _ => opA_addp) (fun _ => rfl) (fun longer =>
 G.kill (env1 := [some (eI many), some ((eL eI) row), some (eI size), some ((eL eI) longer), some (eI at_), none, none]) rfl (G.nil (SR.ok (.inl rfl))))))) (fun longer =>
 G.kill (env1 := [some (eI many), some ((eL eI) row), some (eI size), some ((eL eI) longer), none, none, none]) rfl (G.nil (SR.ok (.inl rfl))))))) (fun longer =>
 G.kill (env1 := [some (eI many), none, some (eI size), some ((eL eI) longer), none, none, none]) rfl (G.kill (env1 := [some (eI many), none, none, some ((eL eI) longer), none, none, none]) rfl (G.asgm (e2 := (fun a : (List Int) => [some (eI many), some ((eL eI) a), none, none, none, none, none])) (SE.by_ (fun a => ((eL eI) a, [some (eI many), none, none, none, none, none, none])) (SR.of rfl rfl)) (fun _ => rfl) (fun row =>
 G.nil (SR.ok (.inl rfl)))))))))) (fun row =>
 G.kill (env1 := [none, some ((eL eI) row), none, none, none, none, none]) rfl (G.ret (PE.var (d := (eL eI) row) rfl) (TQ.rt rfl))))))
def Pl.by_rings (many : Int) : R (List Int) :=
 (R.ok ([(1 : Int)])).bind fun row =>
 (R.rng (1 : Int) (many + (1 : Int))).bind fun xs => (R.for_ (fun size row =>
 ((R.rng 0 ((row.length : Int) + (1 : Int))).bind fun xs => R.sz (xs.map fun u_ => (0 : Int))).bind fun longer =>
 (R.rng 0 (row.length : Int)).bind fun xs => (R.for_ (fun at_ longer =>
 ((R.ok (at_ + (1 : Int))).bind fun t8 => (R.ix longer t8).bind fun t6 => ((R.ix row at_)).bind fun t7 => (R.ok (t6 + t7)).bind fun t9 => R.setI longer t8 t9).bind fun longer =>
 ((R.ok at_).bind fun t4 => (R.ix longer t4).bind fun t2 => (((R.ix row at_)).bind fun t1 => (R.mul (size - (1 : Int)) t1)).bind fun t3 => (R.ok (t2 + t3)).bind fun t5 => R.setI longer t4 t5).bind fun longer =>
 R.ok longer) xs longer).bind fun longer =>
 (R.ok longer).bind fun row =>
 R.ok row) xs row).bind fun row =>
 R.ok row
theorem S.by_rings_ok {k : Nat} (many : Int) : SE (callN tbl 100 (k + 1) 2 [eI many]) (Pl.by_rings many) (fun b => ((eL eI) b, [])) := by
  unfold Pl.by_rings
  exact run_ok (k := k + 0) (fd := f2) (b := f2.body) (env := [some (eI many), none, none, none, none, none]) rfl rfl rfl rfl (G.start (
 G.asgm (e2 := (fun a : (List Int) => [some (eI many), some ((eL eI) a), none, none, none, none])) (SE.by_ (fun a => ((eL eI) a, [some (eI many), none, none, none, none, none])) (SR.of (PE.lst (PEs.cons PE.int PEs.nil)) rfl)) (fun _ => rfl) (fun row =>
 G.for_ (es := (fun a : (List Int) => [some (eI many), some ((eL eI) a), none, none, none, none])) row (W.rng2 PE.int (PE.bin (PE.var (d := eI many) rfl) PE.int (show opF2 .add (.int _) (.int _) = some (.int _) from rfl))) rfl (fun size row => SR.bindp (g := [some (eI many), some ((eL eI) row), some (eI size), none, none, none]) rfl (G.start (
 G.asgm (e2 := (fun a : (List Int) => [some (eI many), some ((eL eI) row), some (eI size), some ((eL eI) a), none, none])) (CE.lcmp (gE := eI) (enc := eI) (f := fun u_ => (0 : Int)) (U := [some (eI many), some ((eL eI) row), some (eI size), none, none, none]) (E := (fun u_ => [some (eI many), some ((eL eI) row), some (eI size), none, none, some (eI u_)])) (W.rng1 (PE.bin (PE.b1 (PE.var (d := (eL eI) row) rfl) (op_lenL (e := eI) row)) PE.int (show opF2 .add (.int _) (.int _) = some (.int _) from rfl))) rfl (fun _ => rfl) (fun u_ => PE.int) (fun _ => rfl) rfl) (fun _ => rfl) (fun longer =>
 G.for_ (es := (fun a : (List Int) => [some (eI many), some ((eL eI) row), some (eI size), some ((eL eI) a), none, none])) longer (W.rng1 (PE.b1 (PE.var (d := (eL eI) row) rfl) (op_lenL (e := eI) row))) rfl (fun at_ longer => SR.bindp (g := [some (eI many), some ((eL eI) row), some (eI size), some ((eL eI) longer), some (eI at_), none]) rfl (G.start (
 G.augsLm (no := fun t6 t7 => R.ok (t6 + t7)) (e2 := fun a => [some (eI many), some ((eL eI) row), some (eI size), some ((eL eI) a), some (eI at_), none]) rfl (SE.by_ (fun a => (eI a, [some (eI many), some ((eL eI) row), some (eI size), some ((eL eI) longer), some (eI at_), none])) (SR.of (PE.bin (PE.var (d := eI at_) rfl) PE.int (show opF2 .add (.int _) (.int _) = some (.int _) from rfl)) rfl)) (SE.by_ (fun a : Int => (eI a, [some (eI many), some ((eL eI) row), some (eI size), some ((eL eI) longer), some (eI at_), none])) (CE.bin (SR.bindp (PE.var (d := (eL eI) row) rfl) (SR.bindp (PE.var (d := eI at_) rfl) (SR.last (op_ixL (e := eI) (l := row) (i := at_)) fun _ => ⟨_, rfl, rfl⟩))))) (fun _ _ => opA_addp) (fun _ => rfl) (fun longer =>
 G.augsLm (no := fun t2 t3 => R.ok (t2 + t3)) (e2 := fun a => [some (eI many), some ((eL eI) row), some (eI size), some ((eL eI) a), some (eI at_), none]) rfl (SE.by_ (fun a => (eI a, [some (eI many), some ((eL eI) row), some (eI size), some ((eL eI) longer), some (eI at_), none])) (SR.of (PE.var (d := eI at_) rfl) rfl)) (SE.by_ (fun a : Int => (eI a, [some (eI many), some ((eL eI) row), some (eI size), some ((eL eI) longer), some (eI at_), none])) (CE.bin (SR.bindp (PE.bin (PE.var (d := eI size) rfl) PE.int (show opF2 .sub (.int _) (.int _) = some (.int _) from rfl)) (SR.bind (SE.by_ (fun a : Int => (eI a, [some (eI many), some ((eL eI) row), some (eI size), some ((eL eI) longer), some (eI at_), none])) (CE.bin (SR.bindp (PE.var (d := (eL eI) row) rfl) (SR.bindp (PE.var (d := eI at_) rfl) (SR.last (op_ixL (e := eI) (l := row) (i := at_)) fun _ => ⟨_, rfl, rfl⟩))))) fun t1 => SR.last (op_mul (i := (size - (1 : Int))) (j := t1)) fun _ => ⟨_, rfl, rfl⟩)))) (fun _ _ => opA_addp) (fun _ => rfl) (fun longer =>
 G.kill (env1 := [some (eI many), some ((eL eI) row), some (eI size), some ((eL eI) longer), none, none]) rfl (G.nil (SR.ok (.inl rfl)))))))) (fun longer =>
 G.kill (env1 := [some (eI many), none, some (eI size), some ((eL eI) longer), none, none]) rfl (G.kill (env1 := [some (eI many), none, none, some ((eL eI) longer), none, none]) rfl (G.asgm (e2 := (fun a : (List Int) => [some (eI many), some ((eL eI) a), none, none, none, none])) (SE.by_ (fun a => ((eL eI) a, [some (eI many), none, none, none, none, none])) (SR.of rfl rfl)) (fun _ => rfl) (fun row =>
 G.nil (SR.ok (.inl rfl)))))))))) (fun row =>
 G.kill (env1 := [none, some ((eL eI) row), none, none, none, none]) rfl (G.ret (PE.var (d := (eL eI) row) rfl) (TQ.rt rfl))))))
def Pl.code (order : (List Int)) : R (List Int) :=
 ((R.rng 0 (order.length : Int)).bind fun xs => (R.mapM (fun at_ => (((R.ok (cutL order (some (at_ + (1 : Int))) none)).bind fun xs => (R.fm (fun one => ((((R.ix order at_)).bind fun t1 => R.ok (decide (one < t1)))).bind fun b => if b = true then (R.ok one).bind fun y => R.ok (some y) else R.ok none) xs).bind R.sz).bind fun t2 => R.ok (t2.length : Int))) xs).bind R.sz)
theorem S.code_ok {k : Nat} (order : (List Int)) : SE (callN tbl 100 (k + 1) 3 [(eL eI) order]) (Pl.code order) (fun b => ((eL eI) b, [])) := by
  unfold Pl.code
  exact run_ok (k := k + 0) (fd := f3) (b := f3.body) (env := [some ((eL eI) order), none, none]) rfl rfl rfl rfl (G.start (
 G.retm' (CE.lcm (gE := eI) (enc := eI) (f := fun at_ => (((R.ok (cutL order (some (at_ + (1 : Int))) none)).bind fun xs => (R.fm (fun one => ((((R.ix order at_)).bind fun t1 => .ok (decide (one < t1)))).bind fun b => if b = true then (R.ok one).bind fun y => .ok (some y) else .ok none) xs).bind R.sz).bind fun t2 => .ok (t2.length : Int))) (U := [some ((eL eI) order), none, none]) (E := (fun at_ => [some ((eL eI) order), some (eI at_), none])) (W.rng1 (PE.b1 (PE.var (d := (eL eI) order) rfl) (op_lenL (e := eI) order))) rfl (fun _ => rfl) (fun at_ => (SE.by_ (fun a : Int => (eI a, [some ((eL eI) order), some (eI at_), none])) (CE.b1 (SR.bind (CE.lc (gE := eI) (enc := eI) (q := fun one => ((((R.ix order at_)).bind fun t1 => .ok (decide (one < t1))))) (f := fun one => (R.ok one)) (U := [some ((eL eI) order), some (eI at_), none]) (E := (fun one => [some ((eL eI) order), some (eI at_), some (eI one)])) (W.itL (e := eI) (PE.slc (da := (eL eI) order) (i := some (at_ + (1 : Int))) (j := none) (da' := .non) (PE.var (d := (eL eI) order) rfl) (slo (PE.bin (PE.var (d := eI at_) rfl) PE.int (show opF2 .add (.int _) (.int _) = some (.int _) from rfl))) rfl (op_slcL (e := eI) (l := order) (lo := some (at_ + (1 : Int))) (hi := none)))) rfl (fun _ => rfl) (fun one => (SE.by_ (fun a => (a, [some ((eL eI) order), some (eI at_), some (eI one)])) (CTs.one (SE.by_ (fun a => (a, [some ((eL eI) order), some (eI at_), some (eI one)])) (CT.val (SR.last (SE.by_ (fun a : Bool => (eB a, [some ((eL eI) order), some (eI at_), some (eI one)])) (CE.bin (SR.bindp (PE.var (d := eI one) rfl) (SR.bind (SE.by_ (fun a : Int => (eI a, [some ((eL eI) order), some (eI at_), some (eI one)])) (CE.bin (SR.bindp (PE.var (d := (eL eI) order) rfl) (SR.bindp (PE.var (d := eI at_) rfl) (SR.last (op_ixL (e := eI) (l := order) (i := at_)) fun _ => ⟨_, rfl, rfl⟩))))) fun t1 => SR.bindp (ofo (show opF2 .lt (.int _) (.int _) = some (.bl _) from rfl)) (SR.ok rfl))))) fun _ => ⟨_, rfl, rfl⟩)))))) (fun one => (SR.of (PE.var (d := eI one) rfl) rfl)) (fun _ => rfl) rfl) fun t2 => SR.bindp (ofo (op_lenL (e := eI) t2)) (SR.ok rfl))))) (fun _ => rfl) rfl) (fun _ => TQ.rt rfl)))
def Pl.order_of_code (row : (List Int)) : R (List Int) :=
 ((R.rngS (1 : Int) ((row.length : Int) + (1 : Int)))).bind fun left =>
 ((R.ok row).bind fun xs => (R.mapS (fun number s1 => (R.popI s1 number)) xs left).bind fun p => (R.sz p.1).bind fun l => R.ok (l, p.2)).bind fun t2 => R.ok t2.1
theorem S.order_of_code_ok {k : Nat} (row : (List Int)) : SE (callN tbl 100 (k + 1) 4 [(eL eI) row]) (Pl.order_of_code row) (fun b => ((eL eI) b, [])) := by
  unfold Pl.order_of_code
  exact run_ok (k := k + 0) (fd := f4) (b := f4.body) (env := [some ((eL eI) row), none, none]) rfl rfl rfl rfl (G.start (
 G.asgm (e2 := (fun a : (List Int) => [some ((eL eI) row), some ((eL eI) a), none])) (SE.by_ (fun a : (List Int) => ((eL eI) a, [some ((eL eI) row), none, none])) (CE.b2 (SR.bindp PE.int (SR.bindp (PE.bin (PE.b1 (PE.var (d := (eL eI) row) rfl) (op_lenL (e := eI) row)) PE.int (show opF2 .add (.int _) (.int _) = some (.int _) from rfl)) (SR.last (op_rngS2 (i := (1 : Int)) (j := ((row.length : Int) + (1 : Int)))) fun _ => ⟨_, rfl, rfl⟩))))) (fun _ => rfl) (fun left =>
 G.retm (w := fun t2 => t2.1) (CE.lcs (gE := eI) (enc := eI) (es := (fun s1 => [some ((eL eI) row), some ((eL eI) s1), none])) (eo := (fun s1 => [some ((eL eI) row), some ((eL eI) s1), none])) (E := (fun number s1 => [some ((eL eI) row), some ((eL eI) s1), some (eI number)])) left (W.itL (e := eI) (PE.var (d := (eL eI) row) rfl)) rfl (fun _ _ => rfl) (fun number s1 => (SE.by_ (fun a : Int × (List Int) => (eI a.1, [some ((eL eI) row), some ((eL eI) a.2), some (eI number)])) (CE.popI rfl (PE.var (d := eI number) rfl) fun _ => rfl))) (fun _ _ => rfl) (fun _ => rfl)) (fun _ => TQ.rt rfl))))
def Pl.rings_as_lows (order : (List Int)) : R (List Int) :=
 (R.ok ([] : (List Int))).bind fun found =>
 (R.ok ([] : (List (Int × Bool)))).bind fun seen =>
 (R.ok ([] : (List (List Int)))).bind fun rows =>
 (R.rngDn (order.length : Int) (0 : Int)).bind fun xs => (R.for_ (fun value (seen, rows) =>
 if (!(getK seen value).isSome) = true then
 (R.ok ([value])).bind fun ring =>
 (R.whl (fun ring => (((((R.ix ring ((-1) : Int))).bind fun t4 => R.ok (t4 - (1 : Int))).bind fun t5 => (R.ix order t5)).bind fun t6 => R.ok (!decide (t6 = value)))) (fun ring =>
 ((((R.ix ring ((-1) : Int))).bind fun t7 => R.ok (t7 - (1 : Int))).bind fun t8 => (R.ix order t8)).bind fun t9 => (R.app ring t9).bind fun ring =>
 R.ok ring) 100 ring).bind fun ring =>
 (R.ok ring).bind fun xs => (R.for_ (fun one seen =>
 ((R.ok true).bind fun t10 => (R.ok one).bind fun t11 => R.put seen t11 t10).bind fun seen =>
 R.ok seen) xs seen).bind fun seen =>
 (((R.ok ring).bind fun t13 => R.ok ([t13])).bind fun t14 => (R.sz (t14 ++ rows))).bind fun rows =>
 R.ok (seen, rows)
 else
 R.ok (seen, rows)) xs (seen, rows)).bind fun (seen, rows) =>
 ((R.ok rows).bind fun xs => (R.for_ (fun ring found =>
 ((R.sz (found ++ ring))).bind fun found =>
 R.ok found) xs found).bind fun found =>
 R.ok found : R (List Int)).bind fun found =>
 R.ok found
theorem S.rings_as_lows_ok {k : Nat} (order : (List Int)) : SE (callN tbl 100 (k + 1) 5 [(eL eI) order]) (Pl.rings_as_lows order) (fun b => ((eL eI) b, [])) := by
  unfold Pl.rings_as_lows
  exact run_ok (k := k + 0) (fd := f5) (b := f5.body) (env := [some ((eL eI) order), none, none, none, none, none, none]) rfl rfl rfl rfl (G.start (
 G.asgm (e2 := (fun a : (List Int) => [some ((eL eI) order), some ((eL eI) a), none, none, none, none, none])) (SE.by_ (fun a => ((eL eI) a, [some ((eL eI) order), none, none, none, none, none, none])) (SR.of (PE.lst PEs.nil) rfl)) (fun _ => rfl) (fun found =>
 G.asgm (e2 := (fun a : (List (Int × Bool)) => [some ((eL eI) order), some ((eL eI) found), some ((eDI eB) a), none, none, none, none])) (SE.by_ (fun a => ((eDI eB) a, [some ((eL eI) order), some ((eL eI) found), none, none, none, none, none])) (SR.of PE.dnew rfl)) (fun _ => rfl) (fun seen =>
 G.asgm (e2 := (fun a : (List (List Int)) => [some ((eL eI) order), some ((eL eI) found), some ((eDI eB) seen), some ((eL (eL eI)) a), none, none, none])) (SE.by_ (fun a => ((eL (eL eI)) a, [some ((eL eI) order), some ((eL eI) found), some ((eDI eB) seen), none, none, none, none])) (SR.of (PE.lst PEs.nil) rfl)) (fun _ => rfl) (fun rows =>
 G.for_ (es := (fun a : ((List (Int × Bool)) × (List (List Int))) => [some ((eL eI) order), some ((eL eI) found), some ((eDI eB) a.1), some ((eL (eL eI)) a.2), none, none, none])) (seen, rows) (W.rng3 (PE.b1 (PE.var (d := (eL eI) order) rfl) (op_lenL (e := eI) order)) PE.int (PE.un PE.int rfl)) rfl (fun value ⟨seen, rows⟩ => SR.bindp (g := [some ((eL eI) order), some ((eL eI) found), some ((eDI eB) seen), some ((eL (eL eI)) rows), some (eI value), none, none]) rfl (G.start (
 G.ite (PT.val (PE.bin (PE.var (d := eI value) rfl) (PE.var (d := (eDI eB) seen) rfl) (op_ninDI (e := eB) (l := seen) (k := value)))) (
 G.asgm (e2 := (fun a : (List Int) => [some ((eL eI) order), some ((eL eI) found), some ((eDI eB) seen), some ((eL (eL eI)) rows), some (eI value), some ((eL eI) a), none])) (SE.by_ (fun a => ((eL eI) a, [some ((eL eI) order), some ((eL eI) found), some ((eDI eB) seen), some ((eL (eL eI)) rows), some (eI value), none, none])) (SR.of (PE.lst (PEs.cons (PE.var (d := eI value) rfl) PEs.nil)) rfl)) (fun _ => rfl) (fun ring =>
 G.whl (es := (fun a : (List Int) => [some ((eL eI) order), some ((eL eI) found), some ((eDI eB) seen), some ((eL (eL eI)) rows), some (eI value), some ((eL eI) a), none])) ring rfl (fun ring => (SE.by_ (fun a => (a, [some ((eL eI) order), some ((eL eI) found), some ((eDI eB) seen), some ((eL (eL eI)) rows), some (eI value), some ((eL eI) ring), none])) (CT.val (SR.last (SE.by_ (fun a : Bool => (eB a, [some ((eL eI) order), some ((eL eI) found), some ((eDI eB) seen), some ((eL (eL eI)) rows), some (eI value), some ((eL eI) ring), none])) (CE.bin (SR.bind (SE.by_ (fun a : Int => (eI a, [some ((eL eI) order), some ((eL eI) found), some ((eDI eB) seen), some ((eL (eL eI)) rows), some (eI value), some ((eL eI) ring), none])) (CE.bin (SR.bindp (PE.var (d := (eL eI) order) rfl) (SR.bind (SE.by_ (fun a : Int => (eI a, [some ((eL eI) order), some ((eL eI) found), some ((eDI eB) seen), some ((eL (eL eI)) rows), some (eI value), some ((eL eI) ring), none])) (CE.bin (SR.bind (SE.by_ (fun a : Int => (eI a, [some ((eL eI) order), some ((eL eI) found), some ((eDI eB) seen), some ((eL (eL eI)) rows), some (eI value), some ((eL eI) ring), none])) (CE.bin (SR.bindp (PE.var (d := (eL eI) ring) rfl) (SR.bindp (PE.un PE.int rfl) (SR.last (op_ixL (e := eI) (l := ring) (i := ((-1) : Int))) fun _ => ⟨_, rfl, rfl⟩))))) fun t4 => SR.bindp PE.int (SR.bindp (ofo (show opF2 .sub (.int _) (.int _) = some (.int _) from rfl)) (SR.ok rfl))))) fun t5 => SR.last (op_ixL (e := eI) (l := order) (i := t5)) fun _ => ⟨_, rfl, rfl⟩)))) fun t6 => SR.bindp (PE.var (d := eI value) rfl) (SR.bindp (ofo (op_neT EqOk.int (by decide) t6 value)) (SR.ok rfl))))) fun _ => ⟨_, rfl, rfl⟩)))) (fun ring => G.start (
 G.appm (enc := eI) (vo := fun a : Int => a) (eo := (fun a : Int => [some ((eL eI) order), some ((eL eI) found), some ((eDI eB) seen), some ((eL (eL eI)) rows), some (eI value), some ((eL eI) ring), none])) (l := fun a : Int => ring) (e2 := fun (a : Int) (l : (List Int)) => [some ((eL eI) order), some ((eL eI) found), some ((eDI eB) seen), some ((eL (eL eI)) rows), some (eI value), some ((eL eI) l), none]) rfl (SE.by_ (fun a : Int => (eI a, [some ((eL eI) order), some ((eL eI) found), some ((eDI eB) seen), some ((eL (eL eI)) rows), some (eI value), some ((eL eI) ring), none])) (CE.bin (SR.bindp (PE.var (d := (eL eI) order) rfl) (SR.bind (SE.by_ (fun a : Int => (eI a, [some ((eL eI) order), some ((eL eI) found), some ((eDI eB) seen), some ((eL (eL eI)) rows), some (eI value), some ((eL eI) ring), none])) (CE.bin (SR.bind (SE.by_ (fun a : Int => (eI a, [some ((eL eI) order), some ((eL eI) found), some ((eDI eB) seen), some ((eL (eL eI)) rows), some (eI value), some ((eL eI) ring), none])) (CE.bin (SR.bindp (PE.var (d := (eL eI) ring) rfl) (SR.bindp (PE.un PE.int rfl) (SR.last (op_ixL (e := eI) (l := ring) (i := ((-1) : Int))) fun _ => ⟨_, rfl, rfl⟩))))) fun t7 => SR.bindp PE.int (SR.bindp (ofo (show opF2 .sub (.int _) (.int _) = some (.int _) from rfl)) (SR.ok rfl))))) fun t8 => SR.last (op_ixL (e := eI) (l := order) (i := t8)) fun _ => ⟨_, rfl, rfl⟩)))) (fun _ => rfl) (fun _ _ => rfl) (fun t9 ring =>
 G.nil (SR.ok (.inl rfl))))) (fun ring =>
 G.kill (env1 := [some ((eL eI) order), some ((eL eI) found), some ((eDI eB) seen), some ((eL (eL eI)) rows), none, some ((eL eI) ring), none]) rfl (G.for_ (es := (fun a : (List (Int × Bool)) => [some ((eL eI) order), some ((eL eI) found), some ((eDI eB) a), some ((eL (eL eI)) rows), none, some ((eL eI) ring), none])) seen (W.itL (e := eI) (PE.var (d := (eL eI) ring) rfl)) rfl (fun one seen => SR.bindp (g := [some ((eL eI) order), some ((eL eI) found), some ((eDI eB) seen), some ((eL (eL eI)) rows), none, some ((eL eI) ring), some (eI one)]) rfl (G.start (
 G.setKm (enc := eB) (env1 := [some ((eL eI) order), some ((eL eI) found), some ((eDI eB) seen), some ((eL (eL eI)) rows), none, some ((eL eI) ring), some (eI one)]) (e2 := fun a => [some ((eL eI) order), some ((eL eI) found), some ((eDI eB) a), some ((eL (eL eI)) rows), none, some ((eL eI) ring), some (eI one)]) (SE.by_ (fun a => (eB a, [some ((eL eI) order), some ((eL eI) found), some ((eDI eB) seen), some ((eL (eL eI)) rows), none, some ((eL eI) ring), some (eI one)])) (SR.of PE.bl rfl)) (SE.by_ (fun a => (eI a, [some ((eL eI) order), some ((eL eI) found), some ((eDI eB) seen), some ((eL (eL eI)) rows), none, some ((eL eI) ring), some (eI one)])) (SR.of (PE.var (d := eI one) rfl) rfl)) rfl rfl (fun _ => rfl) (fun seen =>
 G.kill (env1 := [some ((eL eI) order), some ((eL eI) found), some ((eDI eB) seen), some ((eL (eL eI)) rows), none, some ((eL eI) ring), none]) rfl (G.nil (SR.ok (.inl rfl))))))) (fun seen =>
 G.asgm (e2 := (fun a : (List (List Int)) => [some ((eL eI) order), some ((eL eI) found), some ((eDI eB) seen), some ((eL (eL eI)) a), none, none, none])) (SE.by_ (fun a : (List (List Int)) => ((eL (eL eI)) a, [some ((eL eI) order), some ((eL eI) found), some ((eDI eB) seen), some ((eL (eL eI)) rows), none, none, none])) (CE.bin (SR.bind (SE.by_ (fun a : (List (List Int)) => ((eL (eL eI)) a, [some ((eL eI) order), some ((eL eI) found), some ((eDI eB) seen), some ((eL (eL eI)) rows), none, none, none])) (CE.lst (CEs.cons (SR.bind (SE.by_ (fun a => ((eL eI) a, [some ((eL eI) order), some ((eL eI) found), some ((eDI eB) seen), some ((eL (eL eI)) rows), none, none, none])) (SR.of rfl rfl)) fun t13 => CEs.nil (SR.ok rfl))))) fun t14 => SR.bindp (PE.var (d := (eL (eL eI)) rows) rfl) (SR.last (op_addL (e := (eL eI)) (a := t14) (b := rows)) fun _ => ⟨_, rfl, rfl⟩)))) (fun _ => rfl) (fun rows =>
 G.nil (G.nil (SR.ok (.inl rfl))))))))) (
 G.kill (env1 := [some ((eL eI) order), some ((eL eI) found), some ((eDI eB) seen), some ((eL (eL eI)) rows), none, none, none]) rfl (G.nil (G.nil (SR.ok (.inl rfl)))))))) (fun ⟨seen, rows⟩ =>
 G.kill (env1 := [none, some ((eL eI) found), some ((eDI eB) seen), some ((eL (eL eI)) rows), none, none, none]) rfl (G.kill (env1 := [none, some ((eL eI) found), none, some ((eL (eL eI)) rows), none, none, none]) rfl (G.alt (es := (fun a : (List Int) => [none, some ((eL eI) a), none, some ((eL (eL eI)) rows), none, none, none])) (G.start (
 G.for_ (es := (fun a : (List Int) => [none, some ((eL eI) a), none, some ((eL (eL eI)) rows), none, none, none])) found (W.itL (e := (eL eI)) (PE.var (d := (eL (eL eI)) rows) rfl)) rfl (fun ring found => SR.bindp (g := [none, some ((eL eI) found), none, some ((eL (eL eI)) rows), none, some ((eL eI) ring), none]) rfl (G.start (
 G.asgm (e2 := (fun a : (List Int) => [none, some ((eL eI) a), none, some ((eL (eL eI)) rows), none, some ((eL eI) ring), none])) (SE.by_ (fun a : (List Int) => ((eL eI) a, [none, some ((eL eI) found), none, some ((eL (eL eI)) rows), none, some ((eL eI) ring), none])) (CE.bin (SR.bindp (PE.var (d := (eL eI) found) rfl) (SR.bindp (PE.var (d := (eL eI) ring) rfl) (SR.last (op_addL (e := eI) (a := found) (b := ring)) fun _ => ⟨_, rfl, rfl⟩))))) (fun _ => rfl) (fun found =>
 G.kill (env1 := [none, some ((eL eI) found), none, some ((eL (eL eI)) rows), none, none, none]) rfl (G.nil (SR.ok (.inl rfl))))))) (fun found =>
 G.nil (SR.ok rfl)))) rfl (fun _ => rfl) (fun found =>
 G.kill (env1 := [none, some ((eL eI) found), none, none, none, none, none]) rfl (G.ret (PE.var (d := (eL eI) found) rfl) (TQ.rt rfl)))))))))))
def Pl.high_ones (order : (List Int)) : R (List Int) :=
 ((R.rng 0 (order.length : Int)).bind fun xs => (R.fm (fun at_ => ((((R.ok (cutL order none (some at_))).bind fun xs => (R.mapM (fun one => (((R.ix order at_)).bind fun t1 => R.ok (decide (t1 > one)))) xs).bind R.sz).bind fun t2 => R.ok (t2.all id))).bind fun b => if b = true then (R.ok at_).bind fun y => R.ok (some y) else R.ok none) xs).bind R.sz)
theorem S.high_ones_ok {k : Nat} (order : (List Int)) : SE (callN tbl 100 (k + 1) 6 [(eL eI) order]) (Pl.high_ones order) (fun b => ((eL eI) b, [])) := by
  unfold Pl.high_ones
  exact run_ok (k := k + 0) (fd := f6) (b := f6.body) (env := [some ((eL eI) order), none, none]) rfl rfl rfl rfl (G.start (
 G.retm' (CE.lc (gE := eI) (enc := eI) (q := fun at_ => ((((R.ok (cutL order none (some at_))).bind fun xs => (R.mapM (fun one => (((R.ix order at_)).bind fun t1 => .ok (decide (t1 > one)))) xs).bind R.sz).bind fun t2 => .ok (t2.all id)))) (f := fun at_ => (R.ok at_)) (U := [some ((eL eI) order), none, none]) (E := (fun at_ => [some ((eL eI) order), some (eI at_), none])) (W.rng1 (PE.b1 (PE.var (d := (eL eI) order) rfl) (op_lenL (e := eI) order))) rfl (fun _ => rfl) (fun at_ => (SE.by_ (fun a => (a, [some ((eL eI) order), some (eI at_), none])) (CTs.one (SE.by_ (fun a => (a, [some ((eL eI) order), some (eI at_), none])) (CT.val (SR.last (SE.by_ (fun a : Bool => (eB a, [some ((eL eI) order), some (eI at_), none])) (CE.b1 (SR.bind (CE.lcm (gE := eI) (enc := eB) (f := fun one => (((R.ix order at_)).bind fun t1 => .ok (decide (t1 > one)))) (U := [some ((eL eI) order), some (eI at_), none]) (E := (fun one => [some ((eL eI) order), some (eI at_), some (eI one)])) (W.itL (e := eI) (PE.slc (da := (eL eI) order) (i := none) (j := some at_) (da' := .non) (PE.var (d := (eL eI) order) rfl) rfl (slo (PE.var (d := eI at_) rfl)) (op_slcL (e := eI) (l := order) (lo := none) (hi := some at_)))) rfl (fun _ => rfl) (fun one => (SE.by_ (fun a : Bool => (eB a, [some ((eL eI) order), some (eI at_), some (eI one)])) (CE.bin (SR.bind (SE.by_ (fun a : Int => (eI a, [some ((eL eI) order), some (eI at_), some (eI one)])) (CE.bin (SR.bindp (PE.var (d := (eL eI) order) rfl) (SR.bindp (PE.var (d := eI at_) rfl) (SR.last (op_ixL (e := eI) (l := order) (i := at_)) fun _ => ⟨_, rfl, rfl⟩))))) fun t1 => SR.bindp (PE.var (d := eI one) rfl) (SR.bindp (ofo (show opF2 .gt (.int _) (.int _) = some (.bl _) from rfl)) (SR.ok rfl)))))) (fun _ => rfl) rfl) fun t2 => SR.bindp (ofo (op_all (l := t2))) (SR.ok rfl)))) fun _ => ⟨_, rfl, rfl⟩)))))) (fun at_ => (SR.of (PE.var (d := eI at_) rfl) rfl)) (fun _ => rfl) rfl) (fun _ => TQ.rt rfl)))
def Pl.lows_as_rings (order : (List Int)) : R (List Int) :=
 ((R.ok order).bind fun xs => R.sz (xs.map fun u_ => (0 : Int))).bind fun found =>
 ((Pl.high_ones order).bind fun t3 => (R.sz (t3 ++ ([(order.length : Int)])))).bind fun ends =>
 (R.ok (ends.zip (cutL ends (some (1 : Int)) none))).bind fun xs => (R.for_ (fun (one, other) found =>
 (R.ok (cutL order (some one) (some other))).bind fun row =>
 ((R.ok row).bind fun t4 => ((R.sz ((cutL row (some (1 : Int)) none) ++ (cutL row none (some (1 : Int)))))).bind fun t5 => R.ok (t4.zip t5)).bind fun xs => (R.for_ (fun (value, come) found =>
 ((R.ok come).bind fun t6 => (R.ok (value - (1 : Int))).bind fun t7 => R.setI found t7 t6).bind fun found =>
 R.ok found) xs found).bind fun found =>
 R.ok found) xs found).bind fun found =>
 (R.ok found)
theorem S.lows_as_rings_ok {k : Nat} (order : (List Int)) : SE (callN tbl 100 (k + 2) 7 [(eL eI) order]) (Pl.lows_as_rings order) (fun b => ((eL eI) b, [])) := by
  unfold Pl.lows_as_rings
  exact run_ok (k := k + 1) (fd := f7) (b := f7.body) (env := [some ((eL eI) order), none, none, none, none, none, none, none, none]) rfl rfl rfl rfl (G.start (
 G.asgm (e2 := (fun a : (List Int) => [some ((eL eI) order), some ((eL eI) a), none, none, none, none, none, none, none])) (CE.lcmp (gE := eI) (enc := eI) (f := fun u_ => (0 : Int)) (U := [some ((eL eI) order), none, none, none, none, none, none, none, none]) (E := (fun u_ => [some ((eL eI) order), none, none, none, none, none, none, none, some (eI u_)])) (W.itL (e := eI) (PE.var (d := (eL eI) order) rfl)) rfl (fun _ => rfl) (fun u_ => PE.int) (fun _ => rfl) rfl) (fun _ => rfl) (fun found =>
 G.asgm (e2 := (fun a : (List Int) => [some ((eL eI) order), some ((eL eI) found), some ((eL eI) a), none, none, none, none, none, none])) (SE.by_ (fun a : (List Int) => ((eL eI) a, [some ((eL eI) order), some ((eL eI) found), none, none, none, none, none, none, none])) (CE.bin (SR.bind (SE.by_ (fun a : (List Int) => ((eL eI) a, [some ((eL eI) order), some ((eL eI) found), none, none, none, none, none, none, none])) (CE.call (CA.cons rfl (SR.bindp (PE.var (d := (eL eI) order) rfl) (CA.nil (SR.bindp rfl (SR.last (S.high_ones_ok (k := k + 0) order) fun _ => ⟨_, rfl, rfl⟩))))))) fun t3 => SR.bindp (PE.lst (PEs.cons (PE.b1 (PE.var (d := (eL eI) order) rfl) (op_lenL (e := eI) order)) PEs.nil)) (SR.last (op_addL (e := eI) (a := t3) (b := ([(order.length : Int)]))) fun _ => ⟨_, rfl, rfl⟩)))) (fun _ => rfl) (fun ends =>
 G.for_ (es := (fun a : (List Int) => [some ((eL eI) order), some ((eL eI) a), some ((eL eI) ends), none, none, none, none, none, none])) found (W.zip (e := eI) (f := eI) (PE.var (d := (eL eI) ends) rfl) (PE.slc (da := (eL eI) ends) (i := some (1 : Int)) (j := none) (da' := .non) (PE.var (d := (eL eI) ends) rfl) (slo PE.int) rfl (op_slcL (e := eI) (l := ends) (lo := some (1 : Int)) (hi := none)))) rfl (fun ⟨one, other⟩ found => SR.bindp (g := [some ((eL eI) order), some ((eL eI) found), some ((eL eI) ends), some (eI one), some (eI other), none, none, none, none]) rfl (G.start (
 G.asgm (e2 := (fun a : (List Int) => [some ((eL eI) order), some ((eL eI) found), some ((eL eI) ends), some (eI one), some (eI other), some ((eL eI) a), none, none, none])) (SE.by_ (fun a => ((eL eI) a, [some ((eL eI) order), some ((eL eI) found), some ((eL eI) ends), some (eI one), some (eI other), none, none, none, none])) (SR.of (PE.slc (da := (eL eI) order) (i := some one) (j := some other) (da' := .non) (PE.var (d := (eL eI) order) rfl) (slo (PE.var (d := eI one) rfl)) (slo (PE.var (d := eI other) rfl)) (op_slcL (e := eI) (l := order) (lo := some one) (hi := some other))) rfl)) (fun _ => rfl) (fun row =>
 G.kill (env1 := [some ((eL eI) order), some ((eL eI) found), some ((eL eI) ends), none, some (eI other), some ((eL eI) row), none, none, none]) rfl (G.kill (env1 := [some ((eL eI) order), some ((eL eI) found), some ((eL eI) ends), none, none, some ((eL eI) row), none, none, none]) rfl (G.for_ (es := (fun a : (List Int) => [some ((eL eI) order), some ((eL eI) a), some ((eL eI) ends), none, none, some ((eL eI) row), none, none, none])) found (W.zipm (e := eI) (f := eI) (SR.of (PE.var (d := (eL eI) row) rfl) rfl) (SE.by_ (fun a : (List Int) => ((eL eI) a, [some ((eL eI) order), some ((eL eI) found), some ((eL eI) ends), none, none, some ((eL eI) row), none, none, none])) (CE.bin (SR.bindp (PE.slc (da := (eL eI) row) (i := some (1 : Int)) (j := none) (da' := .non) (PE.var (d := (eL eI) row) rfl) (slo PE.int) rfl (op_slcL (e := eI) (l := row) (lo := some (1 : Int)) (hi := none))) (SR.bindp (PE.slc (da := (eL eI) row) (i := none) (j := some (1 : Int)) (da' := .non) (PE.var (d := (eL eI) row) rfl) rfl (slo PE.int) (op_slcL (e := eI) (l := row) (lo := none) (hi := some (1 : Int)))) (SR.last (op_addL (e := eI) (a := (cutL row (some (1 : Int)) none)) (b := (cutL row none (some (1 : Int))))) fun _ => ⟨_, rfl, rfl⟩)))))) rfl (fun ⟨value, come⟩ found => SR.bindp (g := [some ((eL eI) order), some ((eL eI) found), some ((eL eI) ends), none, none, some ((eL eI) row), some (eI value), some (eI come), none]) rfl (G.start (
 G.setLm (enc := eI) (env1 := [some ((eL eI) order), some ((eL eI) found), some ((eL eI) ends), none, none, some ((eL eI) row), some (eI value), some (eI come), none]) (e2 := fun a => [some ((eL eI) order), some ((eL eI) a), some ((eL eI) ends), none, none, some ((eL eI) row), some (eI value), some (eI come), none]) (SE.by_ (fun a => (eI a, [some ((eL eI) order), some ((eL eI) found), some ((eL eI) ends), none, none, some ((eL eI) row), some (eI value), some (eI come), none])) (SR.of (PE.var (d := eI come) rfl) rfl)) (SE.by_ (fun a => (eI a, [some ((eL eI) order), some ((eL eI) found), some ((eL eI) ends), none, none, some ((eL eI) row), some (eI value), some (eI come), none])) (SR.of (PE.bin (PE.var (d := eI value) rfl) PE.int (show opF2 .sub (.int _) (.int _) = some (.int _) from rfl)) rfl)) rfl rfl (fun _ => rfl) (fun found =>
 G.kill (env1 := [some ((eL eI) order), some ((eL eI) found), some ((eL eI) ends), none, none, some ((eL eI) row), none, some (eI come), none]) rfl (G.kill (env1 := [some ((eL eI) order), some ((eL eI) found), some ((eL eI) ends), none, none, some ((eL eI) row), none, none, none]) rfl (G.nil (SR.ok (.inl rfl)))))))) (fun found =>
 G.kill (env1 := [some ((eL eI) order), some ((eL eI) found), some ((eL eI) ends), none, none, none, none, none, none]) rfl (G.nil (SR.ok (.inl rfl)))))))))) (fun found =>
 G.kill (env1 := [none, some ((eL eI) found), some ((eL eI) ends), none, none, none, none, none, none]) rfl (G.kill (env1 := [none, some ((eL eI) found), none, none, none, none, none, none, none]) rfl (G.retm' (SE.by_ (fun a => ((eL eI) a, [none, none, none, none, none, none, none, none, none])) (SR.of rfl rfl)) (fun _ => TQ.rt rfl))))))))
def Pl.up_down (many : Int) : R Int :=
 (R.ok ([(1 : Int)])).bind fun row =>
 (R.rng (1 : Int) many).bind fun xs => (R.for_ (fun u_ row =>
 (R.ok ([(0 : Int)])).bind fun longer =>
 (R.ok row.reverse).bind fun xs => (R.for_ (fun value longer =>
 (((R.ix longer ((-1) : Int))).bind fun t1 => R.ok (t1 + value)).bind fun t2 => (R.app longer t2).bind fun longer =>
 R.ok longer) xs longer).bind fun longer =>
 (R.ok longer).bind fun row =>
 R.ok row) xs row).bind fun row =>
 R.ok row.sum
theorem S.up_down_ok {k : Nat} (many : Int) : SE (callN tbl 100 (k + 1) 8 [eI many]) (Pl.up_down many) (fun b => (eI b, [])) := by
  unfold Pl.up_down
  exact run_ok (k := k + 0) (fd := f8) (b := f8.body) (env := [some (eI many), none, none, none, none]) rfl rfl rfl rfl (G.start (
 G.asgm (e2 := (fun a : (List Int) => [some (eI many), some ((eL eI) a), none, none, none])) (SE.by_ (fun a => ((eL eI) a, [some (eI many), none, none, none, none])) (SR.of (PE.lst (PEs.cons PE.int PEs.nil)) rfl)) (fun _ => rfl) (fun row =>
 G.for_ (es := (fun a : (List Int) => [some (eI many), some ((eL eI) a), none, none, none])) row (W.rng2 PE.int (PE.var (d := eI many) rfl)) rfl (fun u_ row => SR.bindp (g := [some (eI many), some ((eL eI) row), some (eI u_), none, none]) rfl (G.start (
 G.kill (env1 := [some (eI many), some ((eL eI) row), none, none, none]) rfl (G.asgm (e2 := (fun a : (List Int) => [some (eI many), some ((eL eI) row), none, some ((eL eI) a), none])) (SE.by_ (fun a => ((eL eI) a, [some (eI many), some ((eL eI) row), none, none, none])) (SR.of (PE.lst (PEs.cons PE.int PEs.nil)) rfl)) (fun _ => rfl) (fun longer =>
 G.for_ (es := (fun a : (List Int) => [some (eI many), some ((eL eI) row), none, some ((eL eI) a), none])) longer (W.itL (e := eI) (PE.un (PE.var (d := (eL eI) row) rfl) (op_rev (e := eI) (l := row)))) rfl (fun value longer => SR.bindp (g := [some (eI many), some ((eL eI) row), none, some ((eL eI) longer), some (eI value)]) rfl (G.start (
 G.appm (enc := eI) (vo := fun a : Int => a) (eo := (fun a : Int => [some (eI many), some ((eL eI) row), none, some ((eL eI) longer), some (eI value)])) (l := fun a : Int => longer) (e2 := fun (a : Int) (l : (List Int)) => [some (eI many), some ((eL eI) row), none, some ((eL eI) l), some (eI value)]) rfl (SE.by_ (fun a : Int => (eI a, [some (eI many), some ((eL eI) row), none, some ((eL eI) longer), some (eI value)])) (CE.bin (SR.bind (SE.by_ (fun a : Int => (eI a, [some (eI many), some ((eL eI) row), none, some ((eL eI) longer), some (eI value)])) (CE.bin (SR.bindp (PE.var (d := (eL eI) longer) rfl) (SR.bindp (PE.un PE.int rfl) (SR.last (op_ixL (e := eI) (l := longer) (i := ((-1) : Int))) fun _ => ⟨_, rfl, rfl⟩))))) fun t1 => SR.bindp (PE.var (d := eI value) rfl) (SR.bindp (ofo (show opF2 .add (.int _) (.int _) = some (.int _) from rfl)) (SR.ok rfl))))) (fun _ => rfl) (fun _ _ => rfl) (fun t2 longer =>
 G.kill (env1 := [some (eI many), some ((eL eI) row), none, some ((eL eI) longer), none]) rfl (G.nil (SR.ok (.inl rfl))))))) (fun longer =>
 G.kill (env1 := [some (eI many), none, none, some ((eL eI) longer), none]) rfl (G.asgm (e2 := (fun a : (List Int) => [some (eI many), some ((eL eI) a), none, none, none])) (SE.by_ (fun a => ((eL eI) a, [some (eI many), none, none, none, none])) (SR.of rfl rfl)) (fun _ => rfl) (fun row =>
 G.nil (SR.ok (.inl rfl)))))))))) (fun row =>
 G.kill (env1 := [none, some ((eL eI) row), none, none, none]) rfl (G.ret (PE.b1 (PE.var (d := (eL eI) row) rfl) (op_sum (l := row))) (TQ.rt rfl))))))
def Pl.u_law_draws (cells : (List Int)) : R St :=
 (R.ok ([] : (List Int))).bind fun drawn =>
 (R.ok cells).bind fun xs => (R.for_ (fun cell drawn =>
 (R.ok (cell % (2147483647 : Int))).bind fun seed =>
 (R.rng 0 (40 : Int)).bind fun xs => (R.for_ (fun k (drawn, cell, seed) =>
 (R.ok ((((seed * (48271 : Int)) + (12345 : Int)) + k) % (2147483647 : Int))).bind fun seed =>
 (R.ok (((seed * (69621 : Int)) + ((977 : Int) * k)) % (2147483629 : Int))).bind fun stirred =>
 (R.app drawn (if (decide (cell ≥ (1000000000000000000 : Int))) = true then (cell % (1048576 : Int)) else ((stirred / (3 : Int)) % (1048576 : Int)))).bind fun drawn =>
 (R.ok (if (decide (cell ≥ (1000000000000000000 : Int))) = true then (cell / (1048576 : Int)) else cell)).bind fun cell =>
 R.ok (drawn, cell, seed)) xs (drawn, cell, seed)).bind fun (drawn, cell, seed) =>
 R.ok drawn) xs drawn).bind fun drawn =>
 (R.ok (drawn, (0 : Int)))
theorem S.u_law_draws_ok {k : Nat} (cells : (List Int)) : SE (callN tbl 100 (k + 1) 9 [(eL eI) cells]) (Pl.u_law_draws cells) (fun b => (eST b, [])) := by
  unfold Pl.u_law_draws
  exact run_ok (k := k + 0) (fd := f9) (b := f9.body) (env := [some ((eL eI) cells), none, none, none, none, none]) rfl rfl rfl rfl (G.start (
 G.asgm (e2 := (fun a : (List Int) => [some ((eL eI) cells), some ((eL eI) a), none, none, none, none])) (SE.by_ (fun a => ((eL eI) a, [some ((eL eI) cells), none, none, none, none, none])) (SR.of (PE.lst PEs.nil) rfl)) (fun _ => rfl) (fun drawn =>
 G.for_ (es := (fun a : (List Int) => [some ((eL eI) cells), some ((eL eI) a), none, none, none, none])) drawn (W.itL (e := eI) (PE.var (d := (eL eI) cells) rfl)) rfl (fun cell drawn => SR.bindp (g := [some ((eL eI) cells), some ((eL eI) drawn), some (eI cell), none, none, none]) rfl (G.start (
 G.asgm (e2 := (fun a : Int => [some ((eL eI) cells), some ((eL eI) drawn), some (eI cell), some (eI a), none, none])) (SE.by_ (fun a => (eI a, [some ((eL eI) cells), some ((eL eI) drawn), some (eI cell), none, none, none])) (SR.of (PE.bin (PE.b1 (PE.var (d := eI cell) rfl) (op_int _)) PE.int (mod_lit (by decide))) rfl)) (fun _ => rfl) (fun seed =>
 G.for_ (es := (fun a : ((List Int) × Int × Int) => [some ((eL eI) cells), some ((eL eI) a.1), some (eI a.2.1), some (eI a.2.2), none, none])) (drawn, cell, seed) (W.rng1 PE.int) rfl (fun k ⟨drawn, cell, seed⟩ => SR.bindp (g := [some ((eL eI) cells), some ((eL eI) drawn), some (eI cell), some (eI seed), some (eI k), none]) rfl (G.start (
 G.asgm (e2 := (fun a : Int => [some ((eL eI) cells), some ((eL eI) drawn), some (eI cell), some (eI a), some (eI k), none])) (SE.by_ (fun a => (eI a, [some ((eL eI) cells), some ((eL eI) drawn), some (eI cell), some (eI seed), some (eI k), none])) (SR.of (PE.bin (PE.b1 (PE.bin (PE.bin (PE.bin (PE.var (d := eI seed) rfl) PE.int (mul_litr (by decide))) PE.int (show opF2 .add (.int _) (.int _) = some (.int _) from rfl)) (PE.var (d := eI k) rfl) (show opF2 .add (.int _) (.int _) = some (.int _) from rfl)) (op_int _)) PE.int (mod_lit (by decide))) rfl)) (fun _ => rfl) (fun seed =>
 G.asgm (e2 := (fun a : Int => [some ((eL eI) cells), some ((eL eI) drawn), some (eI cell), some (eI seed), some (eI k), some (eI a)])) (SE.by_ (fun a => (eI a, [some ((eL eI) cells), some ((eL eI) drawn), some (eI cell), some (eI seed), some (eI k), none])) (SR.of (PE.bin (PE.b1 (PE.bin (PE.bin (PE.var (d := eI seed) rfl) PE.int (mul_litr (by decide))) (PE.bin PE.int (PE.var (d := eI k) rfl) (mul_litl (by decide))) (show opF2 .add (.int _) (.int _) = some (.int _) from rfl)) (op_int _)) PE.int (mod_lit (by decide))) rfl)) (fun _ => rfl) (fun stirred =>
 G.kill (env1 := [some ((eL eI) cells), some ((eL eI) drawn), some (eI cell), some (eI seed), none, some (eI stirred)]) rfl (G.app (enc := eI) (e2 := fun a => [some ((eL eI) cells), some ((eL eI) a), some (eI cell), some (eI seed), none, some (eI stirred)]) rfl (PE.ite (d := eI (if (decide (cell ≥ (1000000000000000000 : Int))) = true then (cell % (1048576 : Int)) else ((stirred / (3 : Int)) % (1048576 : Int)))) (PT.val (PE.bin (PE.var (d := eI cell) rfl) (PE.bin PE.int PE.int (pow_lit (z := 1000000000000000000) (by decide) (by decide))) (show opF2 .ge (.int _) (.int _) = some (.bl _) from rfl))) (PE.bin (PE.b1 (PE.var (d := eI cell) rfl) (op_int _)) PE.int (mod_lit (by decide))) (PE.bin (PE.b1 (PE.bin (PE.var (d := eI stirred) rfl) PE.int (fdiv_lit (by decide))) (op_int _)) PE.int (mod_lit (by decide))) (by split <;> rfl)) (fun _ => rfl) (fun drawn =>
 G.kill (env1 := [some ((eL eI) cells), some ((eL eI) drawn), some (eI cell), some (eI seed), none, none]) rfl (G.asgm (e2 := (fun a : Int => [some ((eL eI) cells), some ((eL eI) drawn), some (eI a), some (eI seed), none, none])) (SE.by_ (fun a => (eI a, [some ((eL eI) cells), some ((eL eI) drawn), some (eI cell), some (eI seed), none, none])) (SR.of (PE.ite (d := eI (if (decide (cell ≥ (1000000000000000000 : Int))) = true then (cell / (1048576 : Int)) else cell)) (PT.val (PE.bin (PE.var (d := eI cell) rfl) (PE.bin PE.int PE.int (pow_lit (z := 1000000000000000000) (by decide) (by decide))) (show opF2 .ge (.int _) (.int _) = some (.bl _) from rfl))) (PE.bin (PE.var (d := eI cell) rfl) PE.int (fdiv_lit (by decide))) (PE.var (d := eI cell) rfl) (by split <;> rfl)) rfl)) (fun _ => rfl) (fun cell =>
 G.nil (SR.ok (.inl rfl))))))))))) (fun ⟨drawn, cell, seed⟩ =>
 G.kill (env1 := [some ((eL eI) cells), some ((eL eI) drawn), none, some (eI seed), none, none]) rfl (G.kill (env1 := [some ((eL eI) cells), some ((eL eI) drawn), none, none, none, none]) rfl (G.nil (SR.ok (.inl rfl))))))))) (fun drawn =>
 G.kill (env1 := [none, some ((eL eI) drawn), none, none, none, none]) rfl (G.retm' (SE.by_ (fun a : St => (eST a, [none, none, none, none, none, none])) (SR.of (by rw [evE, show evEs _ _ _ = R.ok ([.str "numbers", eL eI drawn, .str "at", .int (0 : Int)], [none, none, none, none, none, none]) from by simp only [evEs, evE, R.bind_ok, getv, gt, List.getElem?_cons_zero, List.getElem?_cons_succ, Option.getD_some, ofOpt, List.set_cons_zero, List.set_cons_succ]]; simp only [R.bind_ok, dsp_st, ofOpt]; rfl) rfl)) (fun _ => TQ.rt rfl))))))
def Pl.u_law_next (state : St) (top : Int) : R (Int × St) :=
 ((((R.mod state.2 (state.1.length : Int))).bind fun t2 => (R.ix state.1 t2)).bind fun t3 => ((R.fdiv state.2 (state.1.length : Int))).bind fun t4 => R.ok (t3 + t4)).bind fun number =>
 (R.ok (state.1, (state.2 + (1 : Int)))).bind fun state =>
 ((R.mod number top)).bind fun t5 => R.ok (t5, state)
theorem S.u_law_next_ok {k : Nat} (state : St) (top : Int) : SE (callN tbl 100 (k + 1) 10 [eST state, eI top]) (Pl.u_law_next state top) (fun b => (eI b.1, [some (eST b.2)])) := by
  unfold Pl.u_law_next
  exact run_ok (k := k + 0) (fd := f10) (b := f10.body) (env := [some (eST state), some (eI top), none]) rfl rfl rfl rfl (G.start (
 G.asgm (e2 := (fun a : Int => [some (eST state), some (eI top), some (eI a)])) (SE.by_ (fun a : Int => (eI a, [some (eST state), some (eI top), none])) (CE.bin (SR.bind (SE.by_ (fun a : Int => (eI a, [some (eST state), some (eI top), none])) (CE.bin (SR.bindp (PE.bin (PE.var (d := eST state) rfl) PE.str (op_stN _)) (SR.bind (SE.by_ (fun a : Int => (eI a, [some (eST state), some (eI top), none])) (CE.bin (SR.bindp (PE.b1 (PE.bin (PE.var (d := eST state) rfl) PE.str (op_stA _)) (op_int _)) (SR.bindp (PE.b1 (PE.bin (PE.var (d := eST state) rfl) PE.str (op_stN _)) (op_lenL (e := eI) state.1)) (SR.last (op_mod (i := state.2) (j := (state.1.length : Int))) fun _ => ⟨_, rfl, rfl⟩))))) fun t2 => SR.last (op_ixL (e := eI) (l := state.1) (i := t2)) fun _ => ⟨_, rfl, rfl⟩)))) fun t3 => SR.bind (SE.by_ (fun a : Int => (eI a, [some (eST state), some (eI top), none])) (CE.bin (SR.bindp (PE.b1 (PE.bin (PE.var (d := eST state) rfl) PE.str (op_stA _)) (op_int _)) (SR.bindp (PE.b1 (PE.bin (PE.var (d := eST state) rfl) PE.str (op_stN _)) (op_lenL (e := eI) state.1)) (SR.last (op_fdiv (i := state.2) (j := (state.1.length : Int))) fun _ => ⟨_, rfl, rfl⟩))))) fun t4 => SR.bindp (ofo (show opF2 .add (.int _) (.int _) = some (.int _) from rfl)) (SR.ok rfl)))) (fun _ => rfl) (fun number =>
 G.setSt (e2 := fun a => [some (eST a), some (eI top), some (eI number)]) (PE.bin (PE.bin (PE.var (d := eST state) rfl) PE.str (op_stA _)) PE.int (show opF2 .add (.int _) (.int _) = some (.int _) from rfl)) rfl PE.str (fun _ => rfl) (fun state =>
 G.retm (w := fun t5 => (t5, state)) (SE.by_ (fun a : Int => (eI a, [some (eST state), some (eI top), some (eI number)])) (CE.bin (SR.bindp (PE.b1 (PE.var (d := eI number) rfl) (op_int _)) (SR.bindp (PE.var (d := eI top) rfl) (SR.last (op_mod (i := number) (j := top)) fun _ => ⟨_, rfl, rfl⟩))))) (fun _ => TQ.rt rfl)))))
def Pl.u_law_copied : Nat → D → R D
  | 0, _ => .bad
  | n + 1, value =>
    ((R.isi [Ty.list] value).bind fun t1 => if t1 = true then R.ok true else (R.isi [Ty.tuple] value)).bind fun t2 => if t2 = true then
     ((ofOpt (itemsOf value)).bind fun xs => (R.mapM (fun one => (Pl.u_law_copied n one)) xs).bind R.sz).bind fun parts =>
     ((R.isi [Ty.tuple] value).bind fun t4 => if t4 = true then R.ok ((eQ eA) parts) else R.ok ((eL eA) parts))
     else
     ((R.isi [Ty.dict] value).bind fun t11 => if t11 = true then (((ofOpt (itemsOf value)).bind fun xs => (R.mapM (fun key => ((((R.op Op2.idx (eA value) (eA key))).bind fun t7 => Pl.u_law_copied n t7).bind fun t9 => R.ok (key, t9))) xs).bind R.sz).bind fun t10 => (R.b1 B1.dict ((eL (eP2 eA eA)) t10))) else R.ok value)
theorem S.u_law_copied_ok (k : Nat) : ∀ (n : Nat) (value : D), SE (callN tbl 100 (k + n + 0) 11 [eA value]) (Pl.u_law_copied n value) (fun b => (eA b, []))
  | 0, _ => SR.bad
  | n + 1, value => by
   have ih := S.u_law_copied_ok (k := k) n
   rw [show k + (n + 1) + 0 = k + n + 0 + 1 by omega]
   exact run_ok (fd := f11) (b := f11.body) (env := [some (eA value), none, none, none]) rfl rfl rfl rfl (G.start (
    G.item (SE.by_ (fun a => (a, [some (eA value), none, none, none])) (CT.or (SE.by_ (fun a => (a, [some (eA value), none, none, none])) (CTo.two (SR.bind (SE.by_ (fun a => (a, [some (eA value), none, none, none])) (CT.val (SR.last (CE.isiA (PE.var (d := eA value) rfl)) fun _ => ⟨_, rfl, rfl⟩))) fun t1 => SR.ifb (SR.ok rfl) (CTo.one (SE.by_ (fun a => (a, [some (eA value), none, none, none])) (CT.val (SR.last (CE.isiA (PE.var (d := eA value) rfl)) fun _ => ⟨_, rfl, rfl⟩))))))))) (
     G.asgm (e2 := (fun a : (List D) => [some (eA value), some ((eL eA) a), none, none])) (CE.lcm (gE := eA) (enc := eA) (f := fun one => (Pl.u_law_copied n one)) (U := [some (eA value), none, none, none]) (E := (fun one => [some (eA value), none, some (eA one), none])) (W.itA (PE.var (d := eA value) rfl)) rfl (fun _ => rfl) (fun one => (SE.by_ (fun a : D => (eA a, [some (eA value), none, some (eA one), none])) (CE.call (CA.cons rfl (SR.bindp (PE.var (d := eA one) rfl) (CA.nil (SR.bindp rfl (SR.last (ih one) fun _ => ⟨_, rfl, rfl⟩)))))))) (fun _ => rfl) rfl) (fun _ => rfl) (fun parts =>
     G.retm' (SE.by_ (fun a : D => (eA a, [some (eA value), some ((eL eA) parts), none, none])) (CE.ite (SR.bind (SE.by_ (fun a => (a, [some (eA value), some ((eL eA) parts), none, none])) (CT.val (SR.last (CE.isiA (PE.var (d := eA value) rfl)) fun _ => ⟨_, rfl, rfl⟩))) fun t4 => SR.ifb (SR.of (PE.b1 (PE.var (d := (eL eA) parts) rfl) (op_tuple (e := eA) (l := parts))) rfl) (SR.of (PE.var (d := (eL eA) parts) rfl) rfl)))) (fun _ => TQ.rt rfl))) (
     G.nil (G.retm' (SE.by_ (fun a : D => (eA a, [some (eA value), none, none, none])) (CE.ite (SR.bind (SE.by_ (fun a => (a, [some (eA value), none, none, none])) (CT.val (SR.last (CE.isiA (PE.var (d := eA value) rfl)) fun _ => ⟨_, rfl, rfl⟩))) fun t11 => SR.ifb ((SE.by_ (fun a : D => (eA a, [some (eA value), none, none, none])) (CE.b1 (SR.bind (CE.lcm (gE := eA) (enc := (eP2 eA eA)) (f := fun key => ((((R.op Op2.idx (eA value) (eA key))).bind fun t7 => Pl.u_law_copied n t7).bind fun t9 => .ok (key, t9))) (U := [some (eA value), none, none, none]) (E := (fun key => [some (eA value), none, none, some (eA key)])) (W.itA (PE.var (d := eA value) rfl)) rfl (fun _ => rfl) (fun key => (SE.by_ (fun a : (D × D) => ((eP2 eA eA) a, [some (eA value), none, none, some (eA key)])) (CE.tup (CEs.cons (SR.bindp (PE.var (d := eA key) rfl) (CEs.cons (SR.bind (SE.by_ (fun a : D => (eA a, [some (eA value), none, none, some (eA key)])) (CE.call (CA.cons rfl (SR.bind (SE.by_ (fun a : D => (eA a, [some (eA value), none, none, some (eA key)])) (CE.bin (SR.bindp (PE.var (d := eA value) rfl) (SR.bindp (PE.var (d := eA key) rfl) (SR.last (op_any (a := eA value) (b := eA key)) fun _ => ⟨_, rfl, rfl⟩))))) fun t7 => CA.nil (SR.bindp rfl (SR.last (ih t7) fun _ => ⟨_, rfl, rfl⟩)))))) fun t9 => CEs.nil (SR.ok rfl)))))))) (fun _ => rfl) rfl) fun t10 => SR.last (op_b1 (d := (eL (eP2 eA eA)) t10)) fun _ => ⟨_, rfl, rfl⟩)))) (SR.of (PE.var (d := eA value) rfl) rfl)))) (fun _ => TQ.rt rfl)))))
def Pl.u_law_same : Nat → D → D → R Bool
  | 0, _, _ => .bad
  | n + 1, one, other =>
    ((R.isi [Ty.dict] one).bind fun t1 => if t1 = true then (R.isi [Ty.dict] other) else R.ok false).bind fun t2 => if t2 = true then
     ((((R.b1I B1.len (eA one))).bind fun t3 => ((R.b1I B1.len (eA other))).bind fun t4 => R.ok (decide (t3 = t4))).bind fun t10 => if t10 = true then (((ofOpt (itemsOf one)).bind fun xs => (R.mapM (fun key => (((R.opB Op2.inn (eA key) (eA other))).bind fun t8 => if t8 = true then (((R.op Op2.idx (eA one) (eA key))).bind fun t5 => ((R.op Op2.idx (eA other) (eA key))).bind fun t6 => Pl.u_law_same n t5 t6) else R.ok false)) xs).bind R.sz).bind fun t9 => R.ok (t9.all id)) else R.ok false)
     else
     ((R.isi [Ty.list, Ty.tuple] one).bind fun t11 => if t11 = true then (R.isi [Ty.list, Ty.tuple] other) else R.ok false).bind fun t12 => if t12 = true then
     (((R.isi [Ty.list] one).bind fun t13 => (R.isi [Ty.list] other).bind fun t14 => R.ok (!decide (t13 = t14))).bind fun t17 => if t17 = true then R.ok true else (((R.b1I B1.len (eA one))).bind fun t15 => ((R.b1I B1.len (eA other))).bind fun t16 => R.ok (!decide (t15 = t16)))).bind fun t18 => if t18 = true then
     R.ok false
     else
     (((((R.b1I B1.len (eA one))).bind fun t19 => R.rng 0 t19).bind fun xs => (R.mapM (fun k => (((R.op Op2.idx (eA one) (eI k))).bind fun t20 => ((R.op Op2.idx (eA other) (eI k))).bind fun t21 => Pl.u_law_same n t20 t21)) xs).bind R.sz).bind fun t23 => R.ok (t23.all id))
     else
     (((R.isi [Ty.bool] one).bind fun t24 => (R.isi [Ty.bool] other).bind fun t25 => R.ok (decide (t24 = t25))).bind fun t26 => if t26 = true then ((R.eqA (eA one) (eA other))) else R.ok false)
theorem S.u_law_same_ok (k : Nat) : ∀ (n : Nat) (one : D) (other : D), SE (callN tbl 100 (k + n + 0) 12 [eA one, eA other]) (Pl.u_law_same n one other) (fun b => (eB b, []))
  | 0, _, _ => SR.bad
  | n + 1, one, other => by
   have ih := S.u_law_same_ok (k := k) n
   rw [show k + (n + 1) + 0 = k + n + 0 + 1 by omega]
   exact run_ok (fd := f12) (b := f12.body) (env := [some (eA one), some (eA other), none, none]) rfl rfl rfl rfl (G.start (
    G.item (SE.by_ (fun a => (a, [some (eA one), some (eA other), none, none])) (CT.and (SE.by_ (fun a => (a, [some (eA one), some (eA other), none, none])) (CTs.two (SR.bind (SE.by_ (fun a => (a, [some (eA one), some (eA other), none, none])) (CT.val (SR.last (CE.isiA (PE.var (d := eA one) rfl)) fun _ => ⟨_, rfl, rfl⟩))) fun t1 => SR.ifb (CTs.one (SE.by_ (fun a => (a, [some (eA one), some (eA other), none, none])) (CT.val (SR.last (CE.isiA (PE.var (d := eA other) rfl)) fun _ => ⟨_, rfl, rfl⟩)))) (SR.ok rfl)))))) (
     G.retm' (SE.by_ (fun a : Bool => (eB a, [some (eA one), some (eA other), none, none])) (CE.band (CE.and2 (SR.bind (SE.by_ (fun a : Bool => (eB a, [some (eA one), some (eA other), none, none])) (CE.bin (SR.bind (SE.by_ (fun a : Int => (eI a, [some (eA one), some (eA other), none, none])) (CE.b1 (SR.bindp (PE.var (d := eA one) rfl) (SR.last (op_b1I (d := eA one)) fun _ => ⟨_, rfl, rfl⟩)))) fun t3 => SR.bind (SE.by_ (fun a : Int => (eI a, [some (eA one), some (eA other), none, none])) (CE.b1 (SR.bindp (PE.var (d := eA other) rfl) (SR.last (op_b1I (d := eA other)) fun _ => ⟨_, rfl, rfl⟩)))) fun t4 => SR.bindp (ofo (op_eqT EqOk.int (by decide) t3 t4)) (SR.ok rfl)))) fun t10 => SR.bindp rfl (SR.ifb (CE.and1 (SE.by_ (fun a : Bool => (eB a, [some (eA one), some (eA other), none, none])) (CE.b1 (SR.bind (CE.lcm (gE := eA) (enc := eB) (f := fun key => (((R.opB Op2.inn (eA key) (eA other))).bind fun t8 => if t8 = true then (((R.op Op2.idx (eA one) (eA key))).bind fun t5 => ((R.op Op2.idx (eA other) (eA key))).bind fun t6 => Pl.u_law_same n t5 t6) else .ok false)) (U := [some (eA one), some (eA other), none, none]) (E := (fun key => [some (eA one), some (eA other), none, some (eA key)])) (W.itA (PE.var (d := eA one) rfl)) rfl (fun _ => rfl) (fun key => (SE.by_ (fun a : Bool => (eB a, [some (eA one), some (eA other), none, some (eA key)])) (CE.band (CE.and2 (SR.bind (SE.by_ (fun a : Bool => (eB a, [some (eA one), some (eA other), none, some (eA key)])) (CE.bin (SR.bindp (PE.var (d := eA key) rfl) (SR.bindp (PE.var (d := eA other) rfl) (SR.last (op_anyB (a := eA key) (b := eA other)) fun _ => ⟨_, rfl, rfl⟩))))) fun t8 => SR.bindp rfl (SR.ifb (CE.and1 (SE.by_ (fun a : Bool => (eB a, [some (eA one), some (eA other), none, some (eA key)])) (CE.call (CA.cons rfl (SR.bind (SE.by_ (fun a : D => (eA a, [some (eA one), some (eA other), none, some (eA key)])) (CE.bin (SR.bindp (PE.var (d := eA one) rfl) (SR.bindp (PE.var (d := eA key) rfl) (SR.last (op_any (a := eA one) (b := eA key)) fun _ => ⟨_, rfl, rfl⟩))))) fun t5 => CA.cons rfl (SR.bind (SE.by_ (fun a : D => (eA a, [some (eA one), some (eA other), none, some (eA key)])) (CE.bin (SR.bindp (PE.var (d := eA other) rfl) (SR.bindp (PE.var (d := eA key) rfl) (SR.last (op_any (a := eA other) (b := eA key)) fun _ => ⟨_, rfl, rfl⟩))))) fun t6 => CA.nil (SR.bindp rfl (SR.last (ih t5 t6) fun _ => ⟨_, rfl, rfl⟩)))))))) (SR.ok rfl))))))) (fun _ => rfl) rfl) fun t9 => SR.bindp (ofo (op_all (l := t9))) (SR.ok rfl))))) (SR.ok rfl)))))) (fun _ => TQ.rt rfl)) (
     G.nil (G.item (SE.by_ (fun a => (a, [some (eA one), some (eA other), none, none])) (CT.and (SE.by_ (fun a => (a, [some (eA one), some (eA other), none, none])) (CTs.two (SR.bind (SE.by_ (fun a => (a, [some (eA one), some (eA other), none, none])) (CT.val (SR.last (CE.isiA (PE.var (d := eA one) rfl)) fun _ => ⟨_, rfl, rfl⟩))) fun t11 => SR.ifb (CTs.one (SE.by_ (fun a => (a, [some (eA one), some (eA other), none, none])) (CT.val (SR.last (CE.isiA (PE.var (d := eA other) rfl)) fun _ => ⟨_, rfl, rfl⟩)))) (SR.ok rfl)))))) (
     G.item (SE.by_ (fun a => (a, [some (eA one), some (eA other), none, none])) (CT.or (SE.by_ (fun a => (a, [some (eA one), some (eA other), none, none])) (CTo.two (SR.bind (SE.by_ (fun a => (a, [some (eA one), some (eA other), none, none])) (CT.val (SR.last (SE.by_ (fun a : Bool => (eB a, [some (eA one), some (eA other), none, none])) (CE.bin (SR.bind (CE.isiA (PE.var (d := eA one) rfl)) fun t13 => SR.bind (CE.isiA (PE.var (d := eA other) rfl)) fun t14 => SR.bindp (ofo (op_neT EqOk.bool (by decide) t13 t14)) (SR.ok rfl)))) fun _ => ⟨_, rfl, rfl⟩))) fun t17 => SR.ifb (SR.ok rfl) (CTo.one (SE.by_ (fun a => (a, [some (eA one), some (eA other), none, none])) (CT.val (SR.last (SE.by_ (fun a : Bool => (eB a, [some (eA one), some (eA other), none, none])) (CE.bin (SR.bind (SE.by_ (fun a : Int => (eI a, [some (eA one), some (eA other), none, none])) (CE.b1 (SR.bindp (PE.var (d := eA one) rfl) (SR.last (op_b1I (d := eA one)) fun _ => ⟨_, rfl, rfl⟩)))) fun t15 => SR.bind (SE.by_ (fun a : Int => (eI a, [some (eA one), some (eA other), none, none])) (CE.b1 (SR.bindp (PE.var (d := eA other) rfl) (SR.last (op_b1I (d := eA other)) fun _ => ⟨_, rfl, rfl⟩)))) fun t16 => SR.bindp (ofo (op_neT EqOk.int (by decide) t15 t16)) (SR.ok rfl)))) fun _ => ⟨_, rfl, rfl⟩))))))))) (
     G.kill (env1 := [none, some (eA other), none, none]) rfl (G.kill (env1 := [none, none, none, none]) rfl (G.ret PE.bl (TQ.rt rfl)))) (
     G.nil (G.retm' (SE.by_ (fun a : Bool => (eB a, [some (eA one), some (eA other), none, none])) (CE.b1 (SR.bind (CE.lcm (gE := eI) (enc := eB) (f := fun k => (((R.op Op2.idx (eA one) (eI k))).bind fun t20 => ((R.op Op2.idx (eA other) (eI k))).bind fun t21 => Pl.u_law_same n t20 t21)) (U := [some (eA one), some (eA other), none, none]) (E := (fun k => [some (eA one), some (eA other), some (eI k), none])) (W.rng1m (SE.by_ (fun a : Int => (eI a, [some (eA one), some (eA other), none, none])) (CE.b1 (SR.bindp (PE.var (d := eA one) rfl) (SR.last (op_b1I (d := eA one)) fun _ => ⟨_, rfl, rfl⟩))))) rfl (fun _ => rfl) (fun k => (SE.by_ (fun a : Bool => (eB a, [some (eA one), some (eA other), some (eI k), none])) (CE.call (CA.cons rfl (SR.bind (SE.by_ (fun a : D => (eA a, [some (eA one), some (eA other), some (eI k), none])) (CE.bin (SR.bindp (PE.var (d := eA one) rfl) (SR.bindp (PE.var (d := eI k) rfl) (SR.last (op_any (a := eA one) (b := eI k)) fun _ => ⟨_, rfl, rfl⟩))))) fun t20 => CA.cons rfl (SR.bind (SE.by_ (fun a : D => (eA a, [some (eA one), some (eA other), some (eI k), none])) (CE.bin (SR.bindp (PE.var (d := eA other) rfl) (SR.bindp (PE.var (d := eI k) rfl) (SR.last (op_any (a := eA other) (b := eI k)) fun _ => ⟨_, rfl, rfl⟩))))) fun t21 => CA.nil (SR.bindp rfl (SR.last (ih t20 t21) fun _ => ⟨_, rfl, rfl⟩)))))))) (fun _ => rfl) rfl) fun t23 => SR.bindp (ofo (op_all (l := t23))) (SR.ok rfl)))) (fun _ => TQ.rt rfl)))) (
     G.nil (G.retm' (SE.by_ (fun a : Bool => (eB a, [some (eA one), some (eA other), none, none])) (CE.band (CE.and2 (SR.bind (SE.by_ (fun a : Bool => (eB a, [some (eA one), some (eA other), none, none])) (CE.bin (SR.bind (CE.isiA (PE.var (d := eA one) rfl)) fun t24 => SR.bind (CE.isiA (PE.var (d := eA other) rfl)) fun t25 => SR.bindp (ofo (op_eqT EqOk.bool (by decide) t24 t25)) (SR.ok rfl)))) fun t26 => SR.bindp rfl (SR.ifb (CE.and1 (SE.by_ (fun a : Bool => (eB a, [some (eA one), some (eA other), none, none])) (CE.bin (SR.bindp (PE.var (d := eA one) rfl) (SR.bindp (PE.var (d := eA other) rfl) (SR.last (op_eqA (a := eA one) (b := eA other)) fun _ => ⟨_, rfl, rfl⟩)))))) (SR.ok rfl)))))) (fun _ => TQ.rt rfl)))))))
def Pl.u_law_order (state : St) (many : Int) : R ((List Int) × St) :=
 ((R.rngS (1 : Int) (many + (1 : Int)))).bind fun left =>
 (R.ok ([] : (List Int))).bind fun found =>
 (R.rng 0 many).bind fun xs => (R.for_ (fun turn (state, left, found) =>
 (Pl.u_law_next state (left.length : Int)).bind fun (at_, state) =>
 ((R.ix left at_)).bind fun t2 => (R.app found t2).bind fun found =>
 ((R.sz ((cutL left none (some at_)) ++ (cutL left (some (at_ + (1 : Int))) none)))).bind fun left =>
 R.ok (state, left, found)) xs (state, left, found)).bind fun (state, left, found) =>
 (R.ok found).bind fun t3 => R.ok (t3, state)
theorem S.u_law_order_ok {k : Nat} (state : St) (many : Int) : SE (callN tbl 100 (k + 2) 13 [eST state, eI many]) (Pl.u_law_order state many) (fun b => ((eL eI) b.1, [some (eST b.2)])) := by
  unfold Pl.u_law_order
  exact run_ok (k := k + 1) (fd := f13) (b := f13.body) (env := [some (eST state), some (eI many), none, none, none, none]) rfl rfl rfl rfl (G.start (
 G.asgm (e2 := (fun a : (List Int) => [some (eST state), some (eI many), some ((eL eI) a), none, none, none])) (SE.by_ (fun a : (List Int) => ((eL eI) a, [some (eST state), some (eI many), none, none, none, none])) (CE.b2 (SR.bindp PE.int (SR.bindp (PE.bin (PE.var (d := eI many) rfl) PE.int (show opF2 .add (.int _) (.int _) = some (.int _) from rfl)) (SR.last (op_rngS2 (i := (1 : Int)) (j := (many + (1 : Int)))) fun _ => ⟨_, rfl, rfl⟩))))) (fun _ => rfl) (fun left =>
 G.asgm (e2 := (fun a : (List Int) => [some (eST state), some (eI many), some ((eL eI) left), some ((eL eI) a), none, none])) (SE.by_ (fun a => ((eL eI) a, [some (eST state), some (eI many), some ((eL eI) left), none, none, none])) (SR.of (PE.lst PEs.nil) rfl)) (fun _ => rfl) (fun found =>
 G.for_ (es := (fun a : (St × (List Int) × (List Int)) => [some (eST a.1), some (eI many), some ((eL eI) a.2.1), some ((eL eI) a.2.2), none, none])) (state, left, found) (W.rng1 (PE.var (d := eI many) rfl)) rfl (fun turn ⟨state, left, found⟩ => SR.bindp (g := [some (eST state), some (eI many), some ((eL eI) left), some ((eL eI) found), some (eI turn), none]) rfl (G.start (
 G.kill (env1 := [some (eST state), some (eI many), some ((eL eI) left), some ((eL eI) found), none, none]) rfl (G.asgm (e2 := (fun a : Int × St => [some (eST a.2), some (eI many), some ((eL eI) left), some ((eL eI) found), none, some (eI a.1)])) (SE.by_ (fun a : Int × St => (eI a.1, [some (eST a.2), some (eI many), some ((eL eI) left), some ((eL eI) found), none, none])) (CE.call (CA.io (SR.bindp rfl (CA.cons rfl (SR.bindp (PE.b1 (PE.var (d := (eL eI) left) rfl) (op_lenL (e := eI) left)) (CA.nil (SR.bindp rfl (SR.last (S.u_law_next_ok (k := k + 0) state (left.length : Int)) fun _ => ⟨_, rfl, rfl⟩))))))))) (fun _ => rfl) (fun ⟨at_, state⟩ =>
 G.appm (enc := eI) (vo := fun a : Int => a) (eo := (fun a : Int => [some (eST state), some (eI many), some ((eL eI) left), some ((eL eI) found), none, some (eI at_)])) (l := fun a : Int => found) (e2 := fun (a : Int) (l : (List Int)) => [some (eST state), some (eI many), some ((eL eI) left), some ((eL eI) l), none, some (eI at_)]) rfl (SE.by_ (fun a : Int => (eI a, [some (eST state), some (eI many), some ((eL eI) left), some ((eL eI) found), none, some (eI at_)])) (CE.bin (SR.bindp (PE.var (d := (eL eI) left) rfl) (SR.bindp (PE.var (d := eI at_) rfl) (SR.last (op_ixL (e := eI) (l := left) (i := at_)) fun _ => ⟨_, rfl, rfl⟩))))) (fun _ => rfl) (fun _ _ => rfl) (fun t2 found =>
 G.asgm (e2 := (fun a : (List Int) => [some (eST state), some (eI many), some ((eL eI) a), some ((eL eI) found), none, some (eI at_)])) (SE.by_ (fun a : (List Int) => ((eL eI) a, [some (eST state), some (eI many), some ((eL eI) left), some ((eL eI) found), none, some (eI at_)])) (CE.bin (SR.bindp (PE.slc (da := (eL eI) left) (i := none) (j := some at_) (da' := .non) (PE.var (d := (eL eI) left) rfl) rfl (slo (PE.var (d := eI at_) rfl)) (op_slcL (e := eI) (l := left) (lo := none) (hi := some at_))) (SR.bindp (PE.slc (da := (eL eI) left) (i := some (at_ + (1 : Int))) (j := none) (da' := .non) (PE.var (d := (eL eI) left) rfl) (slo (PE.bin (PE.var (d := eI at_) rfl) PE.int (show opF2 .add (.int _) (.int _) = some (.int _) from rfl))) rfl (op_slcL (e := eI) (l := left) (lo := some (at_ + (1 : Int))) (hi := none))) (SR.last (op_addL (e := eI) (a := (cutL left none (some at_))) (b := (cutL left (some (at_ + (1 : Int))) none))) fun _ => ⟨_, rfl, rfl⟩))))) (fun _ => rfl) (fun left =>
 G.kill (env1 := [some (eST state), some (eI many), some ((eL eI) left), some ((eL eI) found), none, none]) rfl (G.nil (SR.ok (.inl rfl)))))))))) (fun ⟨state, left, found⟩ =>
 G.kill (env1 := [some (eST state), none, some ((eL eI) left), some ((eL eI) found), none, none]) rfl (G.kill (env1 := [some (eST state), none, none, some ((eL eI) found), none, none]) rfl (G.retm (w := fun t3 => (t3, state)) (SE.by_ (fun a => ((eL eI) a, [some (eST state), none, none, none, none, none])) (SR.of rfl rfl)) (fun _ => TQ.rt rfl))))))))
def Pl.u_law_made (state : St) (most : Int) : R ((List Int) × St) :=
 (R.ok ([(1 : Int)])).bind fun found =>
 (R.rng 0 (most - (1 : Int))).bind fun xs => (R.for_ (fun turn (state, found) =>
 (Pl.u_law_next state (found.length : Int)).bind fun (at_, state) =>
 ((R.ix found at_)).bind fun value =>
 (Pl.u_law_next state (3 : Int)).bind fun (word, state) =>
 if (decide (word < (2 : Int))) = true then
 ((R.ok found).bind fun xs => R.sz (xs.map fun one => (one + (b2d (decide (one > value)))))).bind fun wide =>
 (((R.sz ((cutL wide none (some at_)) ++ (if (decide (word = (0 : Int))) = true then [value, (value + (1 : Int))] else [(value + (1 : Int)), value])))).bind fun t4 => (R.sz (t4 ++ (cutL wide (some (at_ + (1 : Int))) none)))).bind fun found =>
 R.ok (state, found)
 else
 R.ok (state, found)) xs (state, found)).bind fun (state, found) =>
 R.ok (found, state)
theorem S.u_law_made_ok {k : Nat} (state : St) (most : Int) : SE (callN tbl 100 (k + 2) 15 [eST state, eI most]) (Pl.u_law_made state most) (fun b => ((eL eI) b.1, [some (eST b.2)])) := by
  unfold Pl.u_law_made
  exact run_ok (k := k + 1) (fd := f15) (b := f15.body) (env := [some (eST state), some (eI most), none, none, none, none, none, none, none]) rfl rfl rfl rfl (G.start (
 G.asgm (e2 := (fun a : (List Int) => [some (eST state), some (eI most), some ((eL eI) a), none, none, none, none, none, none])) (SE.by_ (fun a => ((eL eI) a, [some (eST state), some (eI most), none, none, none, none, none, none, none])) (SR.of (PE.lst (PEs.cons PE.int PEs.nil)) rfl)) (fun _ => rfl) (fun found =>
 G.for_ (es := (fun a : (St × (List Int)) => [some (eST a.1), some (eI most), some ((eL eI) a.2), none, none, none, none, none, none])) (state, found) (W.rng1 (PE.bin (PE.var (d := eI most) rfl) PE.int (show opF2 .sub (.int _) (.int _) = some (.int _) from rfl))) rfl (fun turn ⟨state, found⟩ => SR.bindp (g := [some (eST state), some (eI most), some ((eL eI) found), some (eI turn), none, none, none, none, none]) rfl (G.start (
 G.kill (env1 := [some (eST state), some (eI most), some ((eL eI) found), none, none, none, none, none, none]) rfl (G.asgm (e2 := (fun a : Int × St => [some (eST a.2), some (eI most), some ((eL eI) found), none, some (eI a.1), none, none, none, none])) (SE.by_ (fun a : Int × St => (eI a.1, [some (eST a.2), some (eI most), some ((eL eI) found), none, none, none, none, none, none])) (CE.call (CA.io (SR.bindp rfl (CA.cons rfl (SR.bindp (PE.b1 (PE.var (d := (eL eI) found) rfl) (op_lenL (e := eI) found)) (CA.nil (SR.bindp rfl (SR.last (S.u_law_next_ok (k := k + 0) state (found.length : Int)) fun _ => ⟨_, rfl, rfl⟩))))))))) (fun _ => rfl) (fun ⟨at_, state⟩ =>
 G.asgm (e2 := (fun a : Int => [some (eST state), some (eI most), some ((eL eI) found), none, some (eI at_), some (eI a), none, none, none])) (SE.by_ (fun a : Int => (eI a, [some (eST state), some (eI most), some ((eL eI) found), none, some (eI at_), none, none, none, none])) (CE.bin (SR.bindp (PE.var (d := (eL eI) found) rfl) (SR.bindp (PE.var (d := eI at_) rfl) (SR.last (op_ixL (e := eI) (l := found) (i := at_)) fun _ => ⟨_, rfl, rfl⟩))))) (fun _ => rfl) (fun value =>
 G.asgm (e2 := (fun a : Int × St => [some (eST a.2), some (eI most), some ((eL eI) found), none, some (eI at_), some (eI value), some (eI a.1), none, none])) (SE.by_ (fun a : Int × St => (eI a.1, [some (eST a.2), some (eI most), some ((eL eI) found), none, some (eI at_), some (eI value), none, none, none])) (CE.call (CA.io (SR.bindp rfl (CA.cons rfl (SR.bindp PE.int (CA.nil (SR.bindp rfl (SR.last (S.u_law_next_ok (k := k + 0) state (3 : Int)) fun _ => ⟨_, rfl, rfl⟩))))))))) (fun _ => rfl) (fun ⟨word, state⟩ =>
 G.ite (PT.val (PE.bin (PE.var (d := eI word) rfl) PE.int (show opF2 .lt (.int _) (.int _) = some (.bl _) from rfl))) (
 G.asgm (e2 := (fun a : (List Int) => [some (eST state), some (eI most), some ((eL eI) found), none, some (eI at_), some (eI value), some (eI word), some ((eL eI) a), none])) (CE.lcmp (gE := eI) (enc := eI) (f := fun one => (one + (b2d (decide (one > value))))) (U := [some (eST state), some (eI most), some ((eL eI) found), none, some (eI at_), some (eI value), some (eI word), none, none]) (E := (fun one => [some (eST state), some (eI most), some ((eL eI) found), none, some (eI at_), some (eI value), some (eI word), none, some (eI one)])) (W.itL (e := eI) (PE.var (d := (eL eI) found) rfl)) rfl (fun _ => rfl) (fun one => (PE.bin (PE.var (d := eI one) rfl) (PE.b1 (PE.bin (PE.var (d := eI one) rfl) (PE.var (d := eI value) rfl) (show opF2 .gt (.int _) (.int _) = some (.bl _) from rfl)) (op_intB _)) (show opF2 .add (.int _) (.int _) = some (.int _) from rfl))) (fun _ => rfl) rfl) (fun _ => rfl) (fun wide =>
 G.kill (env1 := [some (eST state), some (eI most), none, none, some (eI at_), some (eI value), some (eI word), some ((eL eI) wide), none]) rfl (G.asgm (e2 := (fun a : (List Int) => [some (eST state), some (eI most), some ((eL eI) a), none, some (eI at_), some (eI value), some (eI word), some ((eL eI) wide), none])) (SE.by_ (fun a : (List Int) => ((eL eI) a, [some (eST state), some (eI most), none, none, some (eI at_), some (eI value), some (eI word), some ((eL eI) wide), none])) (CE.bin (SR.bind (SE.by_ (fun a : (List Int) => ((eL eI) a, [some (eST state), some (eI most), none, none, some (eI at_), some (eI value), some (eI word), some ((eL eI) wide), none])) (CE.bin (SR.bindp (PE.slc (da := (eL eI) wide) (i := none) (j := some at_) (da' := .non) (PE.var (d := (eL eI) wide) rfl) rfl (slo (PE.var (d := eI at_) rfl)) (op_slcL (e := eI) (l := wide) (lo := none) (hi := some at_))) (SR.bindp (PE.ite (d := (eL eI) (if (decide (word = (0 : Int))) = true then [value, (value + (1 : Int))] else [(value + (1 : Int)), value])) (PT.val (PE.bin (PE.var (d := eI word) rfl) PE.int (op_eqT EqOk.int (by decide) word (0 : Int)))) (PE.lst (PEs.cons (PE.var (d := eI value) rfl) (PEs.cons (PE.bin (PE.var (d := eI value) rfl) PE.int (show opF2 .add (.int _) (.int _) = some (.int _) from rfl)) PEs.nil))) (PE.lst (PEs.cons (PE.bin (PE.var (d := eI value) rfl) PE.int (show opF2 .add (.int _) (.int _) = some (.int _) from rfl)) (PEs.cons (PE.var (d := eI value) rfl) PEs.nil))) (by split <;> rfl)) (SR.last (op_addL (e := eI) (a := (cutL wide none (some at_))) (b := (if (decide (word = (0 : Int))) = true then [value, (value + (1 : Int))] else [(value + (1 : Int)), value]))) fun _ => ⟨_, rfl, rfl⟩))))) fun t4 => SR.bindp (PE.slc (da := (eL eI) wide) (i := some (at_ + (1 : Int))) (j := none) (da' := .non) (PE.var (d := (eL eI) wide) rfl) (slo (PE.bin (PE.var (d := eI at_) rfl) PE.int (show opF2 .add (.int _) (.int _) = some (.int _) from rfl))) rfl (op_slcL (e := eI) (l := wide) (lo := some (at_ + (1 : Int))) (hi := none))) (SR.last (op_addL (e := eI) (a := t4) (b := (cutL wide (some (at_ + (1 : Int))) none))) fun _ => ⟨_, rfl, rfl⟩)))) (fun _ => rfl) (fun found =>
 G.kill (env1 := [some (eST state), some (eI most), some ((eL eI) found), none, none, some (eI value), some (eI word), some ((eL eI) wide), none]) rfl (G.kill (env1 := [some (eST state), some (eI most), some ((eL eI) found), none, none, none, some (eI word), some ((eL eI) wide), none]) rfl (G.kill (env1 := [some (eST state), some (eI most), some ((eL eI) found), none, none, none, none, some ((eL eI) wide), none]) rfl (G.kill (env1 := [some (eST state), some (eI most), some ((eL eI) found), none, none, none, none, none, none]) rfl (G.nil (G.nil (SR.ok (.inl rfl))))))))))) (
 G.kill (env1 := [some (eST state), some (eI most), some ((eL eI) found), none, none, some (eI value), some (eI word), none, none]) rfl (G.kill (env1 := [some (eST state), some (eI most), some ((eL eI) found), none, none, none, some (eI word), none, none]) rfl (G.kill (env1 := [some (eST state), some (eI most), some ((eL eI) found), none, none, none, none, none, none]) rfl (G.nil (G.nil (SR.ok (.inl rfl)))))))))))))) (fun ⟨state, found⟩ =>
 G.kill (env1 := [some (eST state), none, some ((eL eI) found), none, none, none, none, none, none]) rfl (G.ret (PE.var (d := (eL eI) found) rfl) (TQ.rt rfl))))))
def Pl.u_law_any_order (state : St) (most : Int) : R ((List Int) × St) :=
 (Pl.u_law_next state (4 : Int)).bind fun (word, state) =>
 if (decide (word = (0 : Int))) = true then
 (Pl.u_law_made state most)
 else
 ((Pl.u_law_next state (most + (1 : Int))).bind fun t6 => (Pl.u_law_order t6.2 t6.1).bind fun t7 => R.ok (t7.1, t7.2))
theorem S.u_law_any_order_ok {k : Nat} (state : St) (most : Int) : SE (callN tbl 100 (k + 3) 14 [eST state, eI most]) (Pl.u_law_any_order state most) (fun b => ((eL eI) b.1, [some (eST b.2)])) := by
  unfold Pl.u_law_any_order
  exact run_ok (k := k + 2) (fd := f14) (b := f14.body) (env := [some (eST state), some (eI most), none]) rfl rfl rfl rfl (G.start (
 G.asgm (e2 := (fun a : Int × St => [some (eST a.2), some (eI most), some (eI a.1)])) (SE.by_ (fun a : Int × St => (eI a.1, [some (eST a.2), some (eI most), none])) (CE.call (CA.io (SR.bindp rfl (CA.cons rfl (SR.bindp PE.int (CA.nil (SR.bindp rfl (SR.last (S.u_law_next_ok (k := k + 1) state (4 : Int)) fun _ => ⟨_, rfl, rfl⟩))))))))) (fun _ => rfl) (fun ⟨word, state⟩ =>
 G.ite (PT.val (PE.bin (PE.var (d := eI word) rfl) PE.int (op_eqT EqOk.int (by decide) word (0 : Int)))) (
 G.kill (env1 := [some (eST state), some (eI most), none]) rfl (G.retm' (SE.by_ (fun a : (List Int) × St => ((eL eI) a.1, [some (eST a.2), some (eI most), none])) (CE.call (CA.io (SR.bindp rfl (CA.cons rfl (SR.bindp (PE.var (d := eI most) rfl) (CA.nil (SR.bindp rfl (SR.last (S.u_law_made_ok (k := k + 0) state most) fun _ => ⟨_, rfl, rfl⟩))))))))) (fun _ => TQ.rt rfl))) (
 G.kill (env1 := [some (eST state), some (eI most), none]) rfl (G.nil (G.retm' (SE.by_ (fun a : (List Int) × St => ((eL eI) a.1, [some (eST a.2), some (eI most), none])) (CE.call (CA.io (SR.bindp rfl (CA.cons rfl (SR.bind (SE.by_ (fun a : Int × St => (eI a.1, [some (eST a.2), some (eI most), none])) (CE.call (CA.io (SR.bindp rfl (CA.cons rfl (SR.bindp (PE.bin (PE.var (d := eI most) rfl) PE.int (show opF2 .add (.int _) (.int _) = some (.int _) from rfl)) (CA.nil (SR.bindp rfl (SR.last (S.u_law_next_ok (k := k + 1) state (most + (1 : Int))) fun _ => ⟨_, rfl, rfl⟩))))))))) fun t6 => CA.nil (SR.bindp rfl (SR.bind (S.u_law_order_ok (k := k + 0) t6.2 t6.1) fun t7 => SR.bindp rfl (SR.ok rfl))))))))) (fun _ => TQ.rt rfl)))))))
def Pl.u_law_all_orders (many : Int) : R (List (List Int)) :=
 (R.ok ([([] : (List Int))])).bind fun found =>
 (R.rng (1 : Int) (many + (1 : Int))).bind fun xs => (R.for_ (fun one found =>
 (R.ok ([] : (List (List Int)))).bind fun longer =>
 (R.ok found).bind fun xs => (R.for_ (fun order longer =>
 (((R.rng 0 ((order.length : Int) + (1 : Int))).bind fun xs => (R.mapM (fun at_ => (((R.sz ((cutL order none (some at_)) ++ ([one])))).bind fun t2 => (R.sz (t2 ++ (cutL order (some at_) none))))) xs).bind R.sz).bind fun t3 => (R.sz (longer ++ t3))).bind fun longer =>
 R.ok longer) xs longer).bind fun longer =>
 (R.ok longer).bind fun found =>
 R.ok found) xs found).bind fun found =>
 R.ok (sortR found)
theorem S.u_law_all_orders_ok {k : Nat} (many : Int) : SE (callN tbl 100 (k + 1) 16 [eI many]) (Pl.u_law_all_orders many) (fun b => ((eL (eL eI)) b, [])) := by
  unfold Pl.u_law_all_orders
  exact run_ok (k := k + 0) (fd := f16) (b := f16.body) (env := [some (eI many), none, none, none, none, none]) rfl rfl rfl rfl (G.start (
 G.asgm (e2 := (fun a : (List (List Int)) => [some (eI many), some ((eL (eL eI)) a), none, none, none, none])) (SE.by_ (fun a => ((eL (eL eI)) a, [some (eI many), none, none, none, none, none])) (SR.of (PE.lst (PEs.cons (PE.lst PEs.nil) PEs.nil)) rfl)) (fun _ => rfl) (fun found =>
 G.for_ (es := (fun a : (List (List Int)) => [some (eI many), some ((eL (eL eI)) a), none, none, none, none])) found (W.rng2 PE.int (PE.bin (PE.var (d := eI many) rfl) PE.int (show opF2 .add (.int _) (.int _) = some (.int _) from rfl))) rfl (fun one found => SR.bindp (g := [some (eI many), some ((eL (eL eI)) found), some (eI one), none, none, none]) rfl (G.start (
 G.asgm (e2 := (fun a : (List (List Int)) => [some (eI many), some ((eL (eL eI)) found), some (eI one), some ((eL (eL eI)) a), none, none])) (SE.by_ (fun a => ((eL (eL eI)) a, [some (eI many), some ((eL (eL eI)) found), some (eI one), none, none, none])) (SR.of (PE.lst PEs.nil) rfl)) (fun _ => rfl) (fun longer =>
 G.for_ (es := (fun a : (List (List Int)) => [some (eI many), some ((eL (eL eI)) found), some (eI one), some ((eL (eL eI)) a), none, none])) longer (W.itL (e := (eL eI)) (PE.var (d := (eL (eL eI)) found) rfl)) rfl (fun order longer => SR.bindp (g := [some (eI many), some ((eL (eL eI)) found), some (eI one), some ((eL (eL eI)) longer), some ((eL eI) order), none]) rfl (G.start (
 G.asgm (e2 := (fun a : (List (List Int)) => [some (eI many), some ((eL (eL eI)) found), some (eI one), some ((eL (eL eI)) a), some ((eL eI) order), none])) (SE.by_ (fun a : (List (List Int)) => ((eL (eL eI)) a, [some (eI many), some ((eL (eL eI)) found), some (eI one), some ((eL (eL eI)) longer), some ((eL eI) order), none])) (CE.bin (SR.bindp (PE.var (d := (eL (eL eI)) longer) rfl) (SR.bind (CE.lcm (gE := eI) (enc := (eL eI)) (f := fun at_ => (((R.sz ((cutL order none (some at_)) ++ ([one])))).bind fun t2 => (R.sz (t2 ++ (cutL order (some at_) none))))) (U := [some (eI many), some ((eL (eL eI)) found), some (eI one), some ((eL (eL eI)) longer), some ((eL eI) order), none]) (E := (fun at_ => [some (eI many), some ((eL (eL eI)) found), some (eI one), some ((eL (eL eI)) longer), some ((eL eI) order), some (eI at_)])) (W.rng1 (PE.bin (PE.b1 (PE.var (d := (eL eI) order) rfl) (op_lenL (e := eI) order)) PE.int (show opF2 .add (.int _) (.int _) = some (.int _) from rfl))) rfl (fun _ => rfl) (fun at_ => (SE.by_ (fun a : (List Int) => ((eL eI) a, [some (eI many), some ((eL (eL eI)) found), some (eI one), some ((eL (eL eI)) longer), some ((eL eI) order), some (eI at_)])) (CE.bin (SR.bind (SE.by_ (fun a : (List Int) => ((eL eI) a, [some (eI many), some ((eL (eL eI)) found), some (eI one), some ((eL (eL eI)) longer), some ((eL eI) order), some (eI at_)])) (CE.bin (SR.bindp (PE.slc (da := (eL eI) order) (i := none) (j := some at_) (da' := .non) (PE.var (d := (eL eI) order) rfl) rfl (slo (PE.var (d := eI at_) rfl)) (op_slcL (e := eI) (l := order) (lo := none) (hi := some at_))) (SR.bindp (PE.lst (PEs.cons (PE.var (d := eI one) rfl) PEs.nil)) (SR.last (op_addL (e := eI) (a := (cutL order none (some at_))) (b := ([one]))) fun _ => ⟨_, rfl, rfl⟩))))) fun t2 => SR.bindp (PE.slc (da := (eL eI) order) (i := some at_) (j := none) (da' := .non) (PE.var (d := (eL eI) order) rfl) (slo (PE.var (d := eI at_) rfl)) rfl (op_slcL (e := eI) (l := order) (lo := some at_) (hi := none))) (SR.last (op_addL (e := eI) (a := t2) (b := (cutL order (some at_) none))) fun _ => ⟨_, rfl, rfl⟩))))) (fun _ => rfl) rfl) fun t3 => SR.last (op_addL (e := (eL eI)) (a := longer) (b := t3)) fun _ => ⟨_, rfl, rfl⟩)))) (fun _ => rfl) (fun longer =>
 G.kill (env1 := [some (eI many), some ((eL (eL eI)) found), some (eI one), some ((eL (eL eI)) longer), none, none]) rfl (G.nil (SR.ok (.inl rfl))))))) (fun longer =>
 G.kill (env1 := [some (eI many), none, some (eI one), some ((eL (eL eI)) longer), none, none]) rfl (G.kill (env1 := [some (eI many), none, none, some ((eL (eL eI)) longer), none, none]) rfl (G.asgm (e2 := (fun a : (List (List Int)) => [some (eI many), some ((eL (eL eI)) a), none, some ((eL (eL eI)) longer), none, none])) (SE.by_ (fun a => ((eL (eL eI)) a, [some (eI many), none, none, some ((eL (eL eI)) longer), none, none])) (SR.of (PE.var (d := (eL (eL eI)) longer) rfl) rfl)) (fun _ => rfl) (fun found =>
 G.kill (env1 := [some (eI many), some ((eL (eL eI)) found), none, none, none, none]) rfl (G.nil (SR.ok (.inl rfl))))))))))) (fun found =>
 G.kill (env1 := [none, some ((eL (eL eI)) found), none, none, none, none]) rfl (G.ret (PE.b1 (PE.var (d := (eL (eL eI)) found) rfl) (op_sortR (L := found))) (TQ.rt rfl))))))
def Pl.u_law_falls_of (order : (List Int)) : R Int :=
 (((R.rng 0 ((order.length : Int) - (1 : Int))).bind fun xs => (R.fm (fun at_ => ((((R.ix order at_)).bind fun t1 => ((R.ix order (at_ + (1 : Int)))).bind fun t2 => R.ok (decide (t1 > t2)))).bind fun b => if b = true then (R.ok (1 : Int)).bind fun y => R.ok (some y) else R.ok none) xs).bind R.sz).bind fun t3 => R.ok (t3.length : Int))
theorem S.u_law_falls_of_ok {k : Nat} (order : (List Int)) : SE (callN tbl 100 (k + 1) 17 [(eL eI) order]) (Pl.u_law_falls_of order) (fun b => (eI b, [])) := by
  unfold Pl.u_law_falls_of
  exact run_ok (k := k + 0) (fd := f17) (b := f17.body) (env := [some ((eL eI) order), none]) rfl rfl rfl rfl (G.start (
 G.retm' (SE.by_ (fun a : Int => (eI a, [some ((eL eI) order), none])) (CE.b1 (SR.bind (CE.lc (gE := eI) (enc := eI) (q := fun at_ => ((((R.ix order at_)).bind fun t1 => ((R.ix order (at_ + (1 : Int)))).bind fun t2 => .ok (decide (t1 > t2))))) (f := fun at_ => (R.ok (1 : Int))) (U := [some ((eL eI) order), none]) (E := (fun at_ => [some ((eL eI) order), some (eI at_)])) (W.rng1 (PE.bin (PE.b1 (PE.var (d := (eL eI) order) rfl) (op_lenL (e := eI) order)) PE.int (show opF2 .sub (.int _) (.int _) = some (.int _) from rfl))) rfl (fun _ => rfl) (fun at_ => (SE.by_ (fun a => (a, [some ((eL eI) order), some (eI at_)])) (CTs.one (SE.by_ (fun a => (a, [some ((eL eI) order), some (eI at_)])) (CT.val (SR.last (SE.by_ (fun a : Bool => (eB a, [some ((eL eI) order), some (eI at_)])) (CE.bin (SR.bind (SE.by_ (fun a : Int => (eI a, [some ((eL eI) order), some (eI at_)])) (CE.bin (SR.bindp (PE.var (d := (eL eI) order) rfl) (SR.bindp (PE.var (d := eI at_) rfl) (SR.last (op_ixL (e := eI) (l := order) (i := at_)) fun _ => ⟨_, rfl, rfl⟩))))) fun t1 => SR.bind (SE.by_ (fun a : Int => (eI a, [some ((eL eI) order), some (eI at_)])) (CE.bin (SR.bindp (PE.var (d := (eL eI) order) rfl) (SR.bindp (PE.bin (PE.var (d := eI at_) rfl) PE.int (show opF2 .add (.int _) (.int _) = some (.int _) from rfl)) (SR.last (op_ixL (e := eI) (l := order) (i := (at_ + (1 : Int)))) fun _ => ⟨_, rfl, rfl⟩))))) fun t2 => SR.bindp (ofo (show opF2 .gt (.int _) (.int _) = some (.bl _) from rfl)) (SR.ok rfl)))) fun _ => ⟨_, rfl, rfl⟩)))))) (fun at_ => (SR.of PE.int rfl)) (fun _ => rfl) rfl) fun t3 => SR.bindp (ofo (op_lenL (e := eI) t3)) (SR.ok rfl)))) (fun _ => TQ.rt rfl)))
def Pl.u_law_turned (order : (List Int)) : R Int :=
 (((R.rng 0 (order.length : Int)).bind fun xs => (R.mapM (fun at_ => (((R.ok (cutL order (some (at_ + (1 : Int))) none)).bind fun xs => (R.fm (fun one => ((((R.ix order at_)).bind fun t1 => R.ok (decide (one < t1)))).bind fun b => if b = true then (R.ok (1 : Int)).bind fun y => R.ok (some y) else R.ok none) xs).bind R.sz).bind fun t2 => R.ok (t2.length : Int))) xs).bind R.sz).bind fun t3 => R.ok t3.sum)
theorem S.u_law_turned_ok {k : Nat} (order : (List Int)) : SE (callN tbl 100 (k + 1) 18 [(eL eI) order]) (Pl.u_law_turned order) (fun b => (eI b, [])) := by
  unfold Pl.u_law_turned
  exact run_ok (k := k + 0) (fd := f18) (b := f18.body) (env := [some ((eL eI) order), none, none]) rfl rfl rfl rfl (G.start (
 G.retm' (SE.by_ (fun a : Int => (eI a, [some ((eL eI) order), none, none])) (CE.b1 (SR.bind (CE.lcm (gE := eI) (enc := eI) (f := fun at_ => (((R.ok (cutL order (some (at_ + (1 : Int))) none)).bind fun xs => (R.fm (fun one => ((((R.ix order at_)).bind fun t1 => .ok (decide (one < t1)))).bind fun b => if b = true then (R.ok (1 : Int)).bind fun y => .ok (some y) else .ok none) xs).bind R.sz).bind fun t2 => .ok (t2.length : Int))) (U := [some ((eL eI) order), none, none]) (E := (fun at_ => [some ((eL eI) order), some (eI at_), none])) (W.rng1 (PE.b1 (PE.var (d := (eL eI) order) rfl) (op_lenL (e := eI) order))) rfl (fun _ => rfl) (fun at_ => (SE.by_ (fun a : Int => (eI a, [some ((eL eI) order), some (eI at_), none])) (CE.b1 (SR.bind (CE.lc (gE := eI) (enc := eI) (q := fun one => ((((R.ix order at_)).bind fun t1 => .ok (decide (one < t1))))) (f := fun one => (R.ok (1 : Int))) (U := [some ((eL eI) order), some (eI at_), none]) (E := (fun one => [some ((eL eI) order), some (eI at_), some (eI one)])) (W.itL (e := eI) (PE.slc (da := (eL eI) order) (i := some (at_ + (1 : Int))) (j := none) (da' := .non) (PE.var (d := (eL eI) order) rfl) (slo (PE.bin (PE.var (d := eI at_) rfl) PE.int (show opF2 .add (.int _) (.int _) = some (.int _) from rfl))) rfl (op_slcL (e := eI) (l := order) (lo := some (at_ + (1 : Int))) (hi := none)))) rfl (fun _ => rfl) (fun one => (SE.by_ (fun a => (a, [some ((eL eI) order), some (eI at_), some (eI one)])) (CTs.one (SE.by_ (fun a => (a, [some ((eL eI) order), some (eI at_), some (eI one)])) (CT.val (SR.last (SE.by_ (fun a : Bool => (eB a, [some ((eL eI) order), some (eI at_), some (eI one)])) (CE.bin (SR.bindp (PE.var (d := eI one) rfl) (SR.bind (SE.by_ (fun a : Int => (eI a, [some ((eL eI) order), some (eI at_), some (eI one)])) (CE.bin (SR.bindp (PE.var (d := (eL eI) order) rfl) (SR.bindp (PE.var (d := eI at_) rfl) (SR.last (op_ixL (e := eI) (l := order) (i := at_)) fun _ => ⟨_, rfl, rfl⟩))))) fun t1 => SR.bindp (ofo (show opF2 .lt (.int _) (.int _) = some (.bl _) from rfl)) (SR.ok rfl))))) fun _ => ⟨_, rfl, rfl⟩)))))) (fun one => (SR.of PE.int rfl)) (fun _ => rfl) rfl) fun t2 => SR.bindp (ofo (op_lenL (e := eI) t2)) (SR.ok rfl))))) (fun _ => rfl) rfl) fun t3 => SR.bindp (ofo (op_sum (l := t3))) (SR.ok rfl)))) (fun _ => TQ.rt rfl)))
def Pl.u_law_rings (order : (List Int)) : R (List (List Int)) :=
 (R.ok ([] : (List (List Int)))).bind fun t6 => (R.ok ([] : (List Int))).bind fun t7 => (R.ok (t6, t7)).bind fun (found, met) =>
 (R.rngDn (order.length : Int) (0 : Int)).bind fun xs => (R.for_ (fun value (found, met) =>
 (R.ok ([] : (List Int))).bind fun ring =>
 (R.rng 0 (order.length : Int)).bind fun xs => (R.for_ (fun turn (met, value, ring) =>
 if (!decide (value ∈ met)) = true then
 (R.app met value).bind fun met =>
 (R.app ring value).bind fun ring =>
 ((R.ix order (value - (1 : Int)))).bind fun value =>
 R.ok (met, value, ring)
 else
 R.ok (met, value, ring)) xs (met, value, ring)).bind fun (met, value, ring) =>
 if (decide ((ring.length : Int) > (0 : Int))) = true then
 (((R.ok ring).bind fun t4 => R.ok ([t4])).bind fun t5 => (R.sz (t5 ++ found))).bind fun found =>
 R.ok (found, met)
 else
 R.ok (found, met)) xs (found, met)).bind fun (found, met) =>
 R.ok found
theorem S.u_law_rings_ok {k : Nat} (order : (List Int)) : SE (callN tbl 100 (k + 1) 19 [(eL eI) order]) (Pl.u_law_rings order) (fun b => ((eL (eL eI)) b, [])) := by
  unfold Pl.u_law_rings
  exact run_ok (k := k + 0) (fd := f19) (b := f19.body) (env := [some ((eL eI) order), none, none, none, none, none]) rfl rfl rfl rfl (G.start (
 G.parm (e2 := (fun (a : (List (List Int))) (b : (List Int)) => [some ((eL eI) order), some ((eL (eL eI)) a), some ((eL eI) b), none, none, none])) (SE.by_ (fun a => ((eL (eL eI)) a, [some ((eL eI) order), none, none, none, none, none])) (SR.of (PE.lst PEs.nil) rfl)) (SE.by_ (fun a => ((eL eI) a, [some ((eL eI) order), none, none, none, none, none])) (SR.of (PE.lst PEs.nil) rfl)) (fun _ _ => rfl) (fun found met =>
 G.for_ (es := (fun a : ((List (List Int)) × (List Int)) => [some ((eL eI) order), some ((eL (eL eI)) a.1), some ((eL eI) a.2), none, none, none])) (found, met) (W.rng3 (PE.b1 (PE.var (d := (eL eI) order) rfl) (op_lenL (e := eI) order)) PE.int (PE.un PE.int rfl)) rfl (fun value ⟨found, met⟩ => SR.bindp (g := [some ((eL eI) order), some ((eL (eL eI)) found), some ((eL eI) met), some (eI value), none, none]) rfl (G.start (
 G.asgm (e2 := (fun a : (List Int) => [some ((eL eI) order), some ((eL (eL eI)) found), some ((eL eI) met), some (eI value), some ((eL eI) a), none])) (SE.by_ (fun a => ((eL eI) a, [some ((eL eI) order), some ((eL (eL eI)) found), some ((eL eI) met), some (eI value), none, none])) (SR.of (PE.lst PEs.nil) rfl)) (fun _ => rfl) (fun ring =>
 G.for_ (es := (fun a : ((List Int) × Int × (List Int)) => [some ((eL eI) order), some ((eL (eL eI)) found), some ((eL eI) a.1), some (eI a.2.1), some ((eL eI) a.2.2), none])) (met, value, ring) (W.rng1 (PE.b1 (PE.var (d := (eL eI) order) rfl) (op_lenL (e := eI) order))) rfl (fun turn ⟨met, value, ring⟩ => SR.bindp (g := [some ((eL eI) order), some ((eL (eL eI)) found), some ((eL eI) met), some (eI value), some ((eL eI) ring), some (eI turn)]) rfl (G.start (
 G.kill (env1 := [some ((eL eI) order), some ((eL (eL eI)) found), some ((eL eI) met), some (eI value), some ((eL eI) ring), none]) rfl (G.ite (PT.val (PE.bin (PE.var (d := eI value) rfl) (PE.var (d := (eL eI) met) rfl) (op_ninT EqOk.int (by decide) value met))) (
 G.app (enc := eI) (e2 := fun a => [some ((eL eI) order), some ((eL (eL eI)) found), some ((eL eI) a), some (eI value), some ((eL eI) ring), none]) rfl (PE.var (d := eI value) rfl) (fun _ => rfl) (fun met =>
 G.app (enc := eI) (e2 := fun a => [some ((eL eI) order), some ((eL (eL eI)) found), some ((eL eI) met), some (eI value), some ((eL eI) a), none]) rfl (PE.var (d := eI value) rfl) (fun _ => rfl) (fun ring =>
 G.asgm (e2 := (fun a : Int => [some ((eL eI) order), some ((eL (eL eI)) found), some ((eL eI) met), some (eI a), some ((eL eI) ring), none])) (SE.by_ (fun a : Int => (eI a, [some ((eL eI) order), some ((eL (eL eI)) found), some ((eL eI) met), some (eI value), some ((eL eI) ring), none])) (CE.bin (SR.bindp (PE.var (d := (eL eI) order) rfl) (SR.bindp (PE.bin (PE.var (d := eI value) rfl) PE.int (show opF2 .sub (.int _) (.int _) = some (.int _) from rfl)) (SR.last (op_ixL (e := eI) (l := order) (i := (value - (1 : Int)))) fun _ => ⟨_, rfl, rfl⟩))))) (fun _ => rfl) (fun value =>
 G.nil (G.nil (SR.ok (.inl rfl))))))) (
 G.nil (G.nil (SR.ok (.inl rfl)))))))) (fun ⟨met, value, ring⟩ =>
 G.kill (env1 := [some ((eL eI) order), some ((eL (eL eI)) found), some ((eL eI) met), none, some ((eL eI) ring), none]) rfl (G.ite (PT.val (PE.bin (PE.b1 (PE.var (d := (eL eI) ring) rfl) (op_lenL (e := eI) ring)) PE.int (show opF2 .gt (.int _) (.int _) = some (.bl _) from rfl))) (
 G.asgm (e2 := (fun a : (List (List Int)) => [some ((eL eI) order), some ((eL (eL eI)) a), some ((eL eI) met), none, none, none])) (SE.by_ (fun a : (List (List Int)) => ((eL (eL eI)) a, [some ((eL eI) order), some ((eL (eL eI)) found), some ((eL eI) met), none, none, none])) (CE.bin (SR.bind (SE.by_ (fun a : (List (List Int)) => ((eL (eL eI)) a, [some ((eL eI) order), some ((eL (eL eI)) found), some ((eL eI) met), none, none, none])) (CE.lst (CEs.cons (SR.bind (SE.by_ (fun a => ((eL eI) a, [some ((eL eI) order), some ((eL (eL eI)) found), some ((eL eI) met), none, none, none])) (SR.of rfl rfl)) fun t4 => CEs.nil (SR.ok rfl))))) fun t5 => SR.bindp (PE.var (d := (eL (eL eI)) found) rfl) (SR.last (op_addL (e := (eL eI)) (a := t5) (b := found)) fun _ => ⟨_, rfl, rfl⟩)))) (fun _ => rfl) (fun found =>
 G.nil (G.nil (SR.ok (.inl rfl))))) (
 G.kill (env1 := [some ((eL eI) order), some ((eL (eL eI)) found), some ((eL eI) met), none, none, none]) rfl (G.nil (G.nil (SR.ok (.inl rfl))))))))))) (fun ⟨found, met⟩ =>
 G.kill (env1 := [none, some ((eL (eL eI)) found), some ((eL eI) met), none, none, none]) rfl (G.kill (env1 := [none, some ((eL (eL eI)) found), none, none, none, none]) rfl (G.ret (PE.var (d := (eL (eL eI)) found) rfl) (TQ.rt rfl)))))))
def Pl.u_law_counts (numbers : (List Int)) : R (List Int) :=
 (((((R.maxL numbers)).bind fun t1 => R.ok (t1 + (1 : Int))).bind fun t2 => R.rng 0 t2).bind fun xs => R.sz (xs.map fun k => ((numbers.count k : Nat) : Int)))
theorem S.u_law_counts_ok {k : Nat} (numbers : (List Int)) : SE (callN tbl 100 (k + 1) 20 [(eL eI) numbers]) (Pl.u_law_counts numbers) (fun b => ((eL eI) b, [])) := by
  unfold Pl.u_law_counts
  exact run_ok (k := k + 0) (fd := f20) (b := f20.body) (env := [some ((eL eI) numbers), none]) rfl rfl rfl rfl (G.start (
 G.retm' (CE.lcmp (gE := eI) (enc := eI) (f := fun k => ((numbers.count k : Nat) : Int)) (U := [some ((eL eI) numbers), none]) (E := (fun k => [some ((eL eI) numbers), some (eI k)])) (W.rng1m (SE.by_ (fun a : Int => (eI a, [some ((eL eI) numbers), none])) (CE.bin (SR.bind (SE.by_ (fun a : Int => (eI a, [some ((eL eI) numbers), none])) (CE.b1 (SR.bindp (PE.var (d := (eL eI) numbers) rfl) (SR.last (op_maxL (l := numbers)) fun _ => ⟨_, rfl, rfl⟩)))) fun t1 => SR.bindp PE.int (SR.bindp (ofo (show opF2 .add (.int _) (.int _) = some (.int _) from rfl)) (SR.ok rfl)))))) rfl (fun _ => rfl) (fun k => (PE.m1 (PE.var (d := (eL eI) numbers) rfl) rfl (PE.var (d := eI k) rfl) op_count)) (fun _ => rfl) rfl) (fun _ => TQ.rt rfl)))
def Pl.law (script : (List Int)) : R Bool :=
 (((R.sz ((cutL script none (some (24 : Int))) ++ ([(977 : Int)])))).bind fun t1 => Pl.u_law_draws t1).bind fun state =>
 ((Pl.u_law_next state (6 : Int)).bind fun t5 => R.ok (((1 : Int) + t5.1), t5.2)).bind fun (many, state) =>
 (Pl.u_law_all_orders many).bind fun every =>
 (((Pl.by_falls many).bind fun t12 => (((R.ok every).bind fun xs => (R.mapM (fun order => (Pl.u_law_falls_of order)) xs).bind R.sz).bind fun t14 => Pl.u_law_counts t14).bind fun t16 => R.ok (!decide (t12 = t16))).bind fun t27 => if t27 = true then R.ok true else ((Pl.by_inversions many).bind fun t22 => (((R.ok every).bind fun xs => (R.mapM (fun order => (Pl.u_law_turned order)) xs).bind R.sz).bind fun t24 => Pl.u_law_counts t24).bind fun t26 => R.ok (!decide (t22 = t26)))).bind fun t28 => if t28 = true then
 R.ok false
 else
 ((Pl.by_rings many).bind fun t35 => (((R.ok every).bind fun xs => (R.mapM (fun order => ((Pl.u_law_rings order).bind fun t37 => R.ok (t37.length : Int))) xs).bind R.sz).bind fun t38 => Pl.u_law_counts t38).bind fun t40 => R.ok (!decide (t35 = t40))).bind fun t41 => if t41 = true then
 R.ok false
 else
 ((R.ok every).bind fun xs => (R.fm (fun order => ((((R.rng 0 (many - (1 : Int))).bind fun xs => (R.mapM (fun at_ => ((((R.ix order at_)).bind fun t44 => ((R.ix order (at_ + (1 : Int)))).bind fun t45 => R.ok (decide (t44 < t45))).bind fun t46 => R.ok (decide (t46 = (decide ((at_ % (2 : Int)) = (0 : Int))))))) xs).bind R.sz).bind fun t47 => R.ok (t47.all id))).bind fun b => if b = true then (R.ok order).bind fun y => R.ok (some y) else R.ok none) xs).bind R.sz).bind fun turns =>
 ((Pl.up_down many).bind fun t50 => R.ok (!decide (t50 = (turns.length : Int)))).bind fun t51 => if t51 = true then
 R.ok false
 else
 (R.rng 0 (3 : Int)).bind fun xs => R.thenF (R.forF (ρ := Bool) (fun turn state =>
 (Pl.u_law_any_order state (9 : Int)).bind fun (order, state) =>
 ((Pl.u_law_copied 8 ((eL eI) order)).bind fun t53 => ofOpt ((dL dI) t53)).bind fun handed =>
 ((R.rng 0 (order.length : Int)).bind fun xs => (R.mapM (fun at_ => (((R.ok (cutL order (some (at_ + (1 : Int))) none)).bind fun xs => (R.fm (fun one => ((((R.ix order at_)).bind fun t54 => R.ok (decide (one < t54)))).bind fun b => if b = true then (R.ok (1 : Int)).bind fun y => R.ok (some y) else R.ok none) xs).bind R.sz).bind fun t55 => R.ok (t55.length : Int))) xs).bind R.sz).bind fun row =>
 (((Pl.code handed).bind fun t58 => R.ok (!decide (t58 = row))).bind fun t62 => if t62 = true then R.ok true else ((Pl.order_of_code row).bind fun t61 => R.ok (!decide (t61 = order)))).bind fun t63 => if t63 = true then
 R.ok (.rt false)
 else
 ((R.rng 0 (order.length : Int)).bind fun xs => (R.mapS (fun at_ s65 => (Pl.u_law_next s65 ((order.length : Int) - at_))) xs state).bind fun p => (R.sz p.1).bind fun l => R.ok (l, p.2)).bind fun (drawn, state) =>
 (((Pl.order_of_code drawn).bind fun t71 => Pl.code t71).bind fun t73 => R.ok (!decide (t73 = drawn))).bind fun t74 => if t74 = true then
 R.ok (.rt false)
 else
 (Pl.u_law_rings order).bind fun rings =>
 (R.ok ([] : (List Int))).bind fun line =>
 (R.ok rings).bind fun xs => (R.for_ (fun ring line =>
 ((R.sz (line ++ ring))).bind fun line =>
 R.ok line) xs line).bind fun line =>
 (((Pl.rings_as_lows handed).bind fun t78 => R.ok (!decide (t78 = line))).bind fun t90 => if t90 = true then R.ok true else ((Pl.lows_as_rings line).bind fun t81 => R.ok (!decide (t81 = order))).bind fun t89 => if t89 = true then R.ok true else (((Pl.lows_as_rings handed).bind fun t86 => Pl.rings_as_lows t86).bind fun t88 => R.ok (!decide (t88 = order)))).bind fun t91 => if t91 = true then
 R.ok (.rt false)
 else
 ((((Pl.high_ones line).bind fun t95 => R.ok (t95.length : Int)).bind fun t96 => R.ok (!decide (t96 = (rings.length : Int)))).bind fun t99 => if t99 = true then R.ok true else ((Pl.u_law_same 8 ((eL eI) handed) ((eL eI) order)).bind fun t98 => R.ok (!t98))).bind fun t100 => if t100 = true then
 R.ok (.rt false)
 else
 R.ok (.nx state)) xs state) (fun state =>
 R.ok true) (fun w => R.ok w)
theorem S.law_ok {k : Nat} (script : (List Int)) : SE (callN tbl 100 (k + 9) 21 [eSC script]) (Pl.law script) (fun b => (eB b, [])) := by
  unfold Pl.law
  exact run_ok (k := k + 8) (fd := f21) (b := f21.body) (env := [some (eSC script), none, none, none, none, none, none, none, none, none, none, none, none, none, none]) rfl rfl rfl rfl (G.start (
 G.asgm (e2 := (fun a : St => [some (eSC script), some (eST a), none, none, none, none, none, none, none, none, none, none, none, none, none])) (SE.by_ (fun a : St => (eST a, [some (eSC script), none, none, none, none, none, none, none, none, none, none, none, none, none, none])) (CE.call (CA.cons rfl (SR.bind (SE.by_ (fun a : (List Int) => ((eL eI) a, [some (eSC script), none, none, none, none, none, none, none, none, none, none, none, none, none, none])) (CE.bin (SR.bindp (PE.slc (da := eSC script) (i := none) (j := some (24 : Int)) (da' := .non) (PE.var (d := eSC script) rfl) rfl (slo PE.int) (op_slcSC (l := script) (lo := none) (hi := some (24 : Int)))) (SR.bindp (PE.lst (PEs.cons PE.int PEs.nil)) (SR.last (op_addL (e := eI) (a := (cutL script none (some (24 : Int)))) (b := ([(977 : Int)]))) fun _ => ⟨_, rfl, rfl⟩))))) fun t1 => CA.nil (SR.bindp rfl (SR.last (S.u_law_draws_ok (k := k + 7) t1) fun _ => ⟨_, rfl, rfl⟩)))))) (fun _ => rfl) (fun state =>
 G.kill (env1 := [none, some (eST state), none, none, none, none, none, none, none, none, none, none, none, none, none]) rfl (G.asgm (e2 := (fun a : Int × St => [none, some (eST a.2), some (eI a.1), none, none, none, none, none, none, none, none, none, none, none, none])) (SE.by_ (fun a : Int × St => (eI a.1, [none, some (eST a.2), none, none, none, none, none, none, none, none, none, none, none, none, none])) (CE.bin (SR.bindp PE.int (SR.bind (SE.by_ (fun a : Int × St => (eI a.1, [none, some (eST a.2), none, none, none, none, none, none, none, none, none, none, none, none, none])) (CE.call (CA.io (SR.bindp rfl (CA.cons rfl (SR.bindp PE.int (CA.nil (SR.bindp rfl (SR.last (S.u_law_next_ok (k := k + 7) state (6 : Int)) fun _ => ⟨_, rfl, rfl⟩))))))))) fun t5 => SR.bindp (ofo (show opF2 .add (.int _) (.int _) = some (.int _) from rfl)) (SR.ok rfl))))) (fun _ => rfl) (fun ⟨many, state⟩ =>
 G.asgm (e2 := (fun a : (List (List Int)) => [none, some (eST state), some (eI many), some ((eL (eL eI)) a), none, none, none, none, none, none, none, none, none, none, none])) (SE.by_ (fun a : (List (List Int)) => ((eL (eL eI)) a, [none, some (eST state), some (eI many), none, none, none, none, none, none, none, none, none, none, none, none])) (CE.call (CA.cons rfl (SR.bindp (PE.var (d := eI many) rfl) (CA.nil (SR.bindp rfl (SR.last (S.u_law_all_orders_ok (k := k + 7) many) fun _ => ⟨_, rfl, rfl⟩))))))) (fun _ => rfl) (fun every =>
 G.item (SE.by_ (fun a => (a, [none, some (eST state), some (eI many), some ((eL (eL eI)) every), none, none, none, none, none, none, none, none, none, none, none])) (CT.or (SE.by_ (fun a => (a, [none, some (eST state), some (eI many), some ((eL (eL eI)) every), none, none, none, none, none, none, none, none, none, none, none])) (CTo.two (SR.bind (SE.by_ (fun a => (a, [none, some (eST state), some (eI many), some ((eL (eL eI)) every), none, none, none, none, none, none, none, none, none, none, none])) (CT.val (SR.last (SE.by_ (fun a : Bool => (eB a, [none, some (eST state), some (eI many), some ((eL (eL eI)) every), none, none, none, none, none, none, none, none, none, none, none])) (CE.bin (SR.bind (SE.by_ (fun a : (List Int) => ((eL eI) a, [none, some (eST state), some (eI many), some ((eL (eL eI)) every), none, none, none, none, none, none, none, none, none, none, none])) (CE.call (CA.cons rfl (SR.bindp (PE.var (d := eI many) rfl) (CA.nil (SR.bindp rfl (SR.last (S.by_falls_ok (k := k + 7) many) fun _ => ⟨_, rfl, rfl⟩))))))) fun t12 => SR.bind (SE.by_ (fun a : (List Int) => ((eL eI) a, [none, some (eST state), some (eI many), some ((eL (eL eI)) every), none, none, none, none, none, none, none, none, none, none, none])) (CE.call (CA.cons rfl (SR.bind (CE.lcm (gE := (eL eI)) (enc := eI) (f := fun order => (Pl.u_law_falls_of order)) (U := [none, some (eST state), some (eI many), some ((eL (eL eI)) every), none, none, none, none, none, none, none, none, none, none, none]) (E := (fun order => [none, some (eST state), some (eI many), some ((eL (eL eI)) every), none, none, some ((eL eI) order), none, none, none, none, none, none, none, none])) (W.itL (e := (eL eI)) (PE.var (d := (eL (eL eI)) every) rfl)) rfl (fun _ => rfl) (fun order => (SE.by_ (fun a : Int => (eI a, [none, some (eST state), some (eI many), some ((eL (eL eI)) every), none, none, some ((eL eI) order), none, none, none, none, none, none, none, none])) (CE.call (CA.cons rfl (SR.bindp (PE.var (d := (eL eI) order) rfl) (CA.nil (SR.bindp rfl (SR.last (S.u_law_falls_of_ok (k := k + 7) order) fun _ => ⟨_, rfl, rfl⟩)))))))) (fun _ => rfl) rfl) fun t14 => CA.nil (SR.bindp rfl (SR.last (S.u_law_counts_ok (k := k + 7) t14) fun _ => ⟨_, rfl, rfl⟩)))))) fun t16 => SR.bindp (ofo (op_neT (EqOk.list EqOk.int) (by decide) t12 t16)) (SR.ok rfl)))) fun _ => ⟨_, rfl, rfl⟩))) fun t27 => SR.ifb (SR.ok rfl) (CTo.one (SE.by_ (fun a => (a, [none, some (eST state), some (eI many), some ((eL (eL eI)) every), none, none, none, none, none, none, none, none, none, none, none])) (CT.val (SR.last (SE.by_ (fun a : Bool => (eB a, [none, some (eST state), some (eI many), some ((eL (eL eI)) every), none, none, none, none, none, none, none, none, none, none, none])) (CE.bin (SR.bind (SE.by_ (fun a : (List Int) => ((eL eI) a, [none, some (eST state), some (eI many), some ((eL (eL eI)) every), none, none, none, none, none, none, none, none, none, none, none])) (CE.call (CA.cons rfl (SR.bindp (PE.var (d := eI many) rfl) (CA.nil (SR.bindp rfl (SR.last (S.by_inversions_ok (k := k + 7) many) fun _ => ⟨_, rfl, rfl⟩))))))) fun t22 => SR.bind (SE.by_ (fun a : (List Int) => ((eL eI) a, [none, some (eST state), some (eI many), some ((eL (eL eI)) every), none, none, none, none, none, none, none, none, none, none, none])) (CE.call (CA.cons rfl (SR.bind (CE.lcm (gE := (eL eI)) (enc := eI) (f := fun order => (Pl.u_law_turned order)) (U := [none, some (eST state), some (eI many), some ((eL (eL eI)) every), none, none, none, none, none, none, none, none, none, none, none]) (E := (fun order => [none, some (eST state), some (eI many), some ((eL (eL eI)) every), none, none, some ((eL eI) order), none, none, none, none, none, none, none, none])) (W.itL (e := (eL eI)) (PE.var (d := (eL (eL eI)) every) rfl)) rfl (fun _ => rfl) (fun order => (SE.by_ (fun a : Int => (eI a, [none, some (eST state), some (eI many), some ((eL (eL eI)) every), none, none, some ((eL eI) order), none, none, none, none, none, none, none, none])) (CE.call (CA.cons rfl (SR.bindp (PE.var (d := (eL eI) order) rfl) (CA.nil (SR.bindp rfl (SR.last (S.u_law_turned_ok (k := k + 7) order) fun _ => ⟨_, rfl, rfl⟩)))))))) (fun _ => rfl) rfl) fun t24 => CA.nil (SR.bindp rfl (SR.last (S.u_law_counts_ok (k := k + 7) t24) fun _ => ⟨_, rfl, rfl⟩)))))) fun t26 => SR.bindp (ofo (op_neT (EqOk.list EqOk.int) (by decide) t22 t26)) (SR.ok rfl)))) fun _ => ⟨_, rfl, rfl⟩))))))))) (
 G.kill (env1 := [none, none, some (eI many), some ((eL (eL eI)) every), none, none, none, none, none, none, none, none, none, none, none]) rfl (G.kill (env1 := [none, none, none, some ((eL (eL eI)) every), none, none, none, none, none, none, none, none, none, none, none]) rfl (G.kill (env1 := [none, none, none, none, none, none, none, none, none, none, none, none, none, none, none]) rfl (G.ret PE.bl (TQ.rt rfl))))) (
 G.nil (G.item (SE.by_ (fun a => (a, [none, some (eST state), some (eI many), some ((eL (eL eI)) every), none, none, none, none, none, none, none, none, none, none, none])) (CT.val (SR.last (SE.by_ (fun a : Bool => (eB a, [none, some (eST state), some (eI many), some ((eL (eL eI)) every), none, none, none, none, none, none, none, none, none, none, none])) (CE.bin (SR.bind (SE.by_ (fun a : (List Int) => ((eL eI) a, [none, some (eST state), some (eI many), some ((eL (eL eI)) every), none, none, none, none, none, none, none, none, none, none, none])) (CE.call (CA.cons rfl (SR.bindp (PE.var (d := eI many) rfl) (CA.nil (SR.bindp rfl (SR.last (S.by_rings_ok (k := k + 7) many) fun _ => ⟨_, rfl, rfl⟩))))))) fun t35 => SR.bind (SE.by_ (fun a : (List Int) => ((eL eI) a, [none, some (eST state), some (eI many), some ((eL (eL eI)) every), none, none, none, none, none, none, none, none, none, none, none])) (CE.call (CA.cons rfl (SR.bind (CE.lcm (gE := (eL eI)) (enc := eI) (f := fun order => ((Pl.u_law_rings order).bind fun t37 => .ok (t37.length : Int))) (U := [none, some (eST state), some (eI many), some ((eL (eL eI)) every), none, none, none, none, none, none, none, none, none, none, none]) (E := (fun order => [none, some (eST state), some (eI many), some ((eL (eL eI)) every), none, none, some ((eL eI) order), none, none, none, none, none, none, none, none])) (W.itL (e := (eL eI)) (PE.var (d := (eL (eL eI)) every) rfl)) rfl (fun _ => rfl) (fun order => (SE.by_ (fun a : Int => (eI a, [none, some (eST state), some (eI many), some ((eL (eL eI)) every), none, none, some ((eL eI) order), none, none, none, none, none, none, none, none])) (CE.b1 (SR.bind (SE.by_ (fun a : (List (List Int)) => ((eL (eL eI)) a, [none, some (eST state), some (eI many), some ((eL (eL eI)) every), none, none, some ((eL eI) order), none, none, none, none, none, none, none, none])) (CE.call (CA.cons rfl (SR.bindp (PE.var (d := (eL eI) order) rfl) (CA.nil (SR.bindp rfl (SR.last (S.u_law_rings_ok (k := k + 7) order) fun _ => ⟨_, rfl, rfl⟩))))))) fun t37 => SR.bindp (ofo (op_lenL (e := (eL eI)) t37)) (SR.ok rfl))))) (fun _ => rfl) rfl) fun t38 => CA.nil (SR.bindp rfl (SR.last (S.u_law_counts_ok (k := k + 7) t38) fun _ => ⟨_, rfl, rfl⟩)))))) fun t40 => SR.bindp (ofo (op_neT (EqOk.list EqOk.int) (by decide) t35 t40)) (SR.ok rfl)))) fun _ => ⟨_, rfl, rfl⟩))) (
 G.kill (env1 := [none, none, some (eI many), some ((eL (eL eI)) every), none, none, none, none, none, none, none, none, none, none, none]) rfl (G.kill (env1 := [none, none, none, some ((eL (eL eI)) every), none, none, none, none, none, none, none, none, none, none, none]) rfl (G.kill (env1 := [none, none, none, none, none, none, none, none, none, none, none, none, none, none, none]) rfl (G.ret PE.bl (TQ.rt rfl))))) (
 G.nil (G.asgm (e2 := (fun a : (List (List Int)) => [none, some (eST state), some (eI many), some ((eL (eL eI)) every), some ((eL (eL eI)) a), none, none, none, none, none, none, none, none, none, none])) (CE.lc (gE := (eL eI)) (enc := (eL eI)) (q := fun order => ((((R.rng 0 (many - (1 : Int))).bind fun xs => (R.mapM (fun at_ => ((((R.ix order at_)).bind fun t44 => ((R.ix order (at_ + (1 : Int)))).bind fun t45 => .ok (decide (t44 < t45))).bind fun t46 => .ok (decide (t46 = (decide ((at_ % (2 : Int)) = (0 : Int))))))) xs).bind R.sz).bind fun t47 => .ok (t47.all id)))) (f := fun order => (R.ok order)) (U := [none, some (eST state), some (eI many), some ((eL (eL eI)) every), none, none, none, none, none, none, none, none, none, none, none]) (E := (fun order => [none, some (eST state), some (eI many), some ((eL (eL eI)) every), none, none, some ((eL eI) order), none, none, none, none, none, none, none, none])) (W.itL (e := (eL eI)) (PE.var (d := (eL (eL eI)) every) rfl)) rfl (fun _ => rfl) (fun order => (SE.by_ (fun a => (a, [none, some (eST state), some (eI many), some ((eL (eL eI)) every), none, none, some ((eL eI) order), none, none, none, none, none, none, none, none])) (CTs.one (SE.by_ (fun a => (a, [none, some (eST state), some (eI many), some ((eL (eL eI)) every), none, none, some ((eL eI) order), none, none, none, none, none, none, none, none])) (CT.val (SR.last (SE.by_ (fun a : Bool => (eB a, [none, some (eST state), some (eI many), some ((eL (eL eI)) every), none, none, some ((eL eI) order), none, none, none, none, none, none, none, none])) (CE.b1 (SR.bind (CE.lcm (gE := eI) (enc := eB) (f := fun at_ => ((((R.ix order at_)).bind fun t44 => ((R.ix order (at_ + (1 : Int)))).bind fun t45 => .ok (decide (t44 < t45))).bind fun t46 => .ok (decide (t46 = (decide ((at_ % (2 : Int)) = (0 : Int))))))) (U := [none, some (eST state), some (eI many), some ((eL (eL eI)) every), none, none, some ((eL eI) order), none, none, none, none, none, none, none, none]) (E := (fun at_ => [none, some (eST state), some (eI many), some ((eL (eL eI)) every), none, none, some ((eL eI) order), none, none, none, none, none, none, some (eI at_), none])) (W.rng1 (PE.bin (PE.var (d := eI many) rfl) PE.int (show opF2 .sub (.int _) (.int _) = some (.int _) from rfl))) rfl (fun _ => rfl) (fun at_ => (SE.by_ (fun a : Bool => (eB a, [none, some (eST state), some (eI many), some ((eL (eL eI)) every), none, none, some ((eL eI) order), none, none, none, none, none, none, some (eI at_), none])) (CE.bin (SR.bind (SE.by_ (fun a : Bool => (eB a, [none, some (eST state), some (eI many), some ((eL (eL eI)) every), none, none, some ((eL eI) order), none, none, none, none, none, none, some (eI at_), none])) (CE.bin (SR.bind (SE.by_ (fun a : Int => (eI a, [none, some (eST state), some (eI many), some ((eL (eL eI)) every), none, none, some ((eL eI) order), none, none, none, none, none, none, some (eI at_), none])) (CE.bin (SR.bindp (PE.var (d := (eL eI) order) rfl) (SR.bindp (PE.var (d := eI at_) rfl) (SR.last (op_ixL (e := eI) (l := order) (i := at_)) fun _ => ⟨_, rfl, rfl⟩))))) fun t44 => SR.bind (SE.by_ (fun a : Int => (eI a, [none, some (eST state), some (eI many), some ((eL (eL eI)) every), none, none, some ((eL eI) order), none, none, none, none, none, none, some (eI at_), none])) (CE.bin (SR.bindp (PE.var (d := (eL eI) order) rfl) (SR.bindp (PE.bin (PE.var (d := eI at_) rfl) PE.int (show opF2 .add (.int _) (.int _) = some (.int _) from rfl)) (SR.last (op_ixL (e := eI) (l := order) (i := (at_ + (1 : Int)))) fun _ => ⟨_, rfl, rfl⟩))))) fun t45 => SR.bindp (ofo (show opF2 .lt (.int _) (.int _) = some (.bl _) from rfl)) (SR.ok rfl)))) fun t46 => SR.bindp (PE.bin (PE.bin (PE.b1 (PE.var (d := eI at_) rfl) (op_int _)) PE.int (mod_lit (by decide))) PE.int (op_eqT EqOk.int (by decide) (at_ % (2 : Int)) (0 : Int))) (SR.bindp (ofo (op_eqT EqOk.bool (by decide) t46 (decide ((at_ % (2 : Int)) = (0 : Int))))) (SR.ok rfl)))))) (fun _ => rfl) rfl) fun t47 => SR.bindp (ofo (op_all (l := t47))) (SR.ok rfl)))) fun _ => ⟨_, rfl, rfl⟩)))))) (fun order => (SR.of (PE.var (d := (eL eI) order) rfl) rfl)) (fun _ => rfl) rfl) (fun _ => rfl) (fun turns =>
 G.kill (env1 := [none, some (eST state), some (eI many), none, some ((eL (eL eI)) turns), none, none, none, none, none, none, none, none, none, none]) rfl (G.item (SE.by_ (fun a => (a, [none, some (eST state), some (eI many), none, some ((eL (eL eI)) turns), none, none, none, none, none, none, none, none, none, none])) (CT.val (SR.last (SE.by_ (fun a : Bool => (eB a, [none, some (eST state), some (eI many), none, some ((eL (eL eI)) turns), none, none, none, none, none, none, none, none, none, none])) (CE.bin (SR.bind (SE.by_ (fun a : Int => (eI a, [none, some (eST state), some (eI many), none, some ((eL (eL eI)) turns), none, none, none, none, none, none, none, none, none, none])) (CE.call (CA.cons rfl (SR.bindp (PE.var (d := eI many) rfl) (CA.nil (SR.bindp rfl (SR.last (S.up_down_ok (k := k + 7) many) fun _ => ⟨_, rfl, rfl⟩))))))) fun t50 => SR.bindp (PE.b1 (PE.var (d := (eL (eL eI)) turns) rfl) (op_lenL (e := (eL eI)) turns)) (SR.bindp (ofo (op_neT EqOk.int (by decide) t50 (turns.length : Int))) (SR.ok rfl))))) fun _ => ⟨_, rfl, rfl⟩))) (
 G.kill (env1 := [none, none, some (eI many), none, some ((eL (eL eI)) turns), none, none, none, none, none, none, none, none, none, none]) rfl (G.kill (env1 := [none, none, none, none, some ((eL (eL eI)) turns), none, none, none, none, none, none, none, none, none, none]) rfl (G.kill (env1 := [none, none, none, none, none, none, none, none, none, none, none, none, none, none, none]) rfl (G.ret PE.bl (TQ.rt rfl))))) (
 G.kill (env1 := [none, some (eST state), none, none, some ((eL (eL eI)) turns), none, none, none, none, none, none, none, none, none, none]) rfl (G.kill (env1 := [none, some (eST state), none, none, none, none, none, none, none, none, none, none, none, none, none]) rfl (G.nil (G.forF (es := (fun a : St => [none, some (eST a), none, none, none, none, none, none, none, none, none, none, none, none, none])) (q := (RQ f21.io (fun b => (eB b, [])))) state (W.rng1 PE.int) rfl (fun turn state => SR.bindp (g := [none, some (eST state), none, none, none, some (eI turn), none, none, none, none, none, none, none, none, none]) rfl (G.start (
 G.kill (env1 := [none, some (eST state), none, none, none, none, none, none, none, none, none, none, none, none, none]) rfl (G.asgm (e2 := (fun a : (List Int) × St => [none, some (eST a.2), none, none, none, none, some ((eL eI) a.1), none, none, none, none, none, none, none, none])) (SE.by_ (fun a : (List Int) × St => ((eL eI) a.1, [none, some (eST a.2), none, none, none, none, none, none, none, none, none, none, none, none, none])) (CE.call (CA.io (SR.bindp rfl (CA.cons rfl (SR.bindp PE.int (CA.nil (SR.bindp rfl (SR.last (S.u_law_any_order_ok (k := k + 5) state (9 : Int)) fun _ => ⟨_, rfl, rfl⟩))))))))) (fun _ => rfl) (fun ⟨order, state⟩ =>
 G.asgm (e2 := (fun a : (List Int) => [none, some (eST state), none, none, none, none, some ((eL eI) order), some ((eL eI) a), none, none, none, none, none, none, none])) (SE.by_ (fun a : (List Int) => ((eL eI) a, [none, some (eST state), none, none, none, none, some ((eL eI) order), none, none, none, none, none, none, none, none])) (CE.call (CA.cons rfl (SR.bindp (PE.var (d := (eL eI) order) rfl) (CA.nil (SR.bindp rfl (SR.bind (S.u_law_copied_ok (k + 0) 8 ((eL eI) order)) fun t53 => SR.decf (DecOk.list DecOk.int)))))))) (fun _ => rfl) (fun handed =>
 G.asgm (e2 := (fun a : (List Int) => [none, some (eST state), none, none, none, none, some ((eL eI) order), some ((eL eI) handed), some ((eL eI) a), none, none, none, none, none, none])) (CE.lcm (gE := eI) (enc := eI) (f := fun at_ => (((R.ok (cutL order (some (at_ + (1 : Int))) none)).bind fun xs => (R.fm (fun one => ((((R.ix order at_)).bind fun t54 => .ok (decide (one < t54)))).bind fun b => if b = true then (R.ok (1 : Int)).bind fun y => .ok (some y) else .ok none) xs).bind R.sz).bind fun t55 => .ok (t55.length : Int))) (U := [none, some (eST state), none, none, none, none, some ((eL eI) order), some ((eL eI) handed), none, none, none, none, none, none, none]) (E := (fun at_ => [none, some (eST state), none, none, none, none, some ((eL eI) order), some ((eL eI) handed), none, none, none, none, none, some (eI at_), none])) (W.rng1 (PE.b1 (PE.var (d := (eL eI) order) rfl) (op_lenL (e := eI) order))) rfl (fun _ => rfl) (fun at_ => (SE.by_ (fun a : Int => (eI a, [none, some (eST state), none, none, none, none, some ((eL eI) order), some ((eL eI) handed), none, none, none, none, none, some (eI at_), none])) (CE.b1 (SR.bind (CE.lc (gE := eI) (enc := eI) (q := fun one => ((((R.ix order at_)).bind fun t54 => .ok (decide (one < t54))))) (f := fun one => (R.ok (1 : Int))) (U := [none, some (eST state), none, none, none, none, some ((eL eI) order), some ((eL eI) handed), none, none, none, none, none, some (eI at_), none]) (E := (fun one => [none, some (eST state), none, none, none, none, some ((eL eI) order), some ((eL eI) handed), none, none, none, none, none, some (eI at_), some (eI one)])) (W.itL (e := eI) (PE.slc (da := (eL eI) order) (i := some (at_ + (1 : Int))) (j := none) (da' := .non) (PE.var (d := (eL eI) order) rfl) (slo (PE.bin (PE.var (d := eI at_) rfl) PE.int (show opF2 .add (.int _) (.int _) = some (.int _) from rfl))) rfl (op_slcL (e := eI) (l := order) (lo := some (at_ + (1 : Int))) (hi := none)))) rfl (fun _ => rfl) (fun one => (SE.by_ (fun a => (a, [none, some (eST state), none, none, none, none, some ((eL eI) order), some ((eL eI) handed), none, none, none, none, none, some (eI at_), some (eI one)])) (CTs.one (SE.by_ (fun a => (a, [none, some (eST state), none, none, none, none, some ((eL eI) order), some ((eL eI) handed), none, none, none, none, none, some (eI at_), some (eI one)])) (CT.val (SR.last (SE.by_ (fun a : Bool => (eB a, [none, some (eST state), none, none, none, none, some ((eL eI) order), some ((eL eI) handed), none, none, none, none, none, some (eI at_), some (eI one)])) (CE.bin (SR.bindp (PE.var (d := eI one) rfl) (SR.bind (SE.by_ (fun a : Int => (eI a, [none, some (eST state), none, none, none, none, some ((eL eI) order), some ((eL eI) handed), none, none, none, none, none, some (eI at_), some (eI one)])) (CE.bin (SR.bindp (PE.var (d := (eL eI) order) rfl) (SR.bindp (PE.var (d := eI at_) rfl) (SR.last (op_ixL (e := eI) (l := order) (i := at_)) fun _ => ⟨_, rfl, rfl⟩))))) fun t54 => SR.bindp (ofo (show opF2 .lt (.int _) (.int _) = some (.bl _) from rfl)) (SR.ok rfl))))) fun _ => ⟨_, rfl, rfl⟩)))))) (fun one => (SR.of PE.int rfl)) (fun _ => rfl) rfl) fun t55 => SR.bindp (ofo (op_lenL (e := eI) t55)) (SR.ok rfl))))) (fun _ => rfl) rfl) (fun _ => rfl) (fun row =>
 G.item (SE.by_ (fun a => (a, [none, some (eST state), none, none, none, none, some ((eL eI) order), some ((eL eI) handed), some ((eL eI) row), none, none, none, none, none, none])) (CT.or (SE.by_ (fun a => (a, [none, some (eST state), none, none, none, none, some ((eL eI) order), some ((eL eI) handed), some ((eL eI) row), none, none, none, none, none, none])) (CTo.two (SR.bind (SE.by_ (fun a => (a, [none, some (eST state), none, none, none, none, some ((eL eI) order), some ((eL eI) handed), some ((eL eI) row), none, none, none, none, none, none])) (CT.val (SR.last (SE.by_ (fun a : Bool => (eB a, [none, some (eST state), none, none, none, none, some ((eL eI) order), some ((eL eI) handed), some ((eL eI) row), none, none, none, none, none, none])) (CE.bin (SR.bind (SE.by_ (fun a : (List Int) => ((eL eI) a, [none, some (eST state), none, none, none, none, some ((eL eI) order), some ((eL eI) handed), some ((eL eI) row), none, none, none, none, none, none])) (CE.call (CA.cons rfl (SR.bindp (PE.var (d := (eL eI) handed) rfl) (CA.nil (SR.bindp rfl (SR.last (S.code_ok (k := k + 7) handed) fun _ => ⟨_, rfl, rfl⟩))))))) fun t58 => SR.bindp (PE.var (d := (eL eI) row) rfl) (SR.bindp (ofo (op_neT (EqOk.list EqOk.int) (by decide) t58 row)) (SR.ok rfl))))) fun _ => ⟨_, rfl, rfl⟩))) fun t62 => SR.ifb (SR.ok rfl) (CTo.one (SE.by_ (fun a => (a, [none, some (eST state), none, none, none, none, some ((eL eI) order), some ((eL eI) handed), some ((eL eI) row), none, none, none, none, none, none])) (CT.val (SR.last (SE.by_ (fun a : Bool => (eB a, [none, some (eST state), none, none, none, none, some ((eL eI) order), some ((eL eI) handed), some ((eL eI) row), none, none, none, none, none, none])) (CE.bin (SR.bind (SE.by_ (fun a : (List Int) => ((eL eI) a, [none, some (eST state), none, none, none, none, some ((eL eI) order), some ((eL eI) handed), some ((eL eI) row), none, none, none, none, none, none])) (CE.call (CA.cons rfl (SR.bindp (PE.b1 (PE.var (d := (eL eI) row) rfl) (op_list (e := eI) (l := row))) (CA.nil (SR.bindp rfl (SR.last (S.order_of_code_ok (k := k + 7) row) fun _ => ⟨_, rfl, rfl⟩))))))) fun t61 => SR.bindp (PE.var (d := (eL eI) order) rfl) (SR.bindp (ofo (op_neT (EqOk.list EqOk.int) (by decide) t61 order)) (SR.ok rfl))))) fun _ => ⟨_, rfl, rfl⟩))))))))) (
 G.kill (env1 := [none, none, none, none, none, none, some ((eL eI) order), some ((eL eI) handed), some ((eL eI) row), none, none, none, none, none, none]) rfl (G.kill (env1 := [none, none, none, none, none, none, none, some ((eL eI) handed), some ((eL eI) row), none, none, none, none, none, none]) rfl (G.kill (env1 := [none, none, none, none, none, none, none, none, some ((eL eI) row), none, none, none, none, none, none]) rfl (G.kill (env1 := [none, none, none, none, none, none, none, none, none, none, none, none, none, none, none]) rfl (G.ret PE.bl (FQ.rt' rfl)))))) (
 G.kill (env1 := [none, some (eST state), none, none, none, none, some ((eL eI) order), some ((eL eI) handed), none, none, none, none, none, none, none]) rfl (G.nil (G.asgm (e2 := (fun a : (List Int) × St => [none, some (eST a.2), none, none, none, none, some ((eL eI) order), some ((eL eI) handed), none, some ((eL eI) a.1), none, none, none, none, none])) (CE.lcs (gE := eI) (enc := eI) (es := (fun s65 => [none, some (eST s65), none, none, none, none, some ((eL eI) order), some ((eL eI) handed), none, none, none, none, none, none, none])) (eo := (fun s65 => [none, some (eST s65), none, none, none, none, some ((eL eI) order), some ((eL eI) handed), none, none, none, none, none, none, none])) (E := (fun at_ s65 => [none, some (eST s65), none, none, none, none, some ((eL eI) order), some ((eL eI) handed), none, none, none, none, none, some (eI at_), none])) state (W.rng1 (PE.b1 (PE.var (d := (eL eI) order) rfl) (op_lenL (e := eI) order))) rfl (fun _ _ => rfl) (fun at_ s65 => (SE.by_ (fun a : Int × St => (eI a.1, [none, some (eST a.2), none, none, none, none, some ((eL eI) order), some ((eL eI) handed), none, none, none, none, none, some (eI at_), none])) (CE.call (CA.io (SR.bindp rfl (CA.cons rfl (SR.bindp (PE.bin (PE.b1 (PE.var (d := (eL eI) order) rfl) (op_lenL (e := eI) order)) (PE.var (d := eI at_) rfl) (show opF2 .sub (.int _) (.int _) = some (.int _) from rfl)) (CA.nil (SR.bindp rfl (SR.last (S.u_law_next_ok (k := k + 7) s65 ((order.length : Int) - at_)) fun _ => ⟨_, rfl, rfl⟩)))))))))) (fun _ _ => rfl) (fun _ => rfl)) (fun _ => rfl) (fun ⟨drawn, state⟩ =>
 G.item (SE.by_ (fun a => (a, [none, some (eST state), none, none, none, none, some ((eL eI) order), some ((eL eI) handed), none, some ((eL eI) drawn), none, none, none, none, none])) (CT.val (SR.last (SE.by_ (fun a : Bool => (eB a, [none, some (eST state), none, none, none, none, some ((eL eI) order), some ((eL eI) handed), none, some ((eL eI) drawn), none, none, none, none, none])) (CE.bin (SR.bind (SE.by_ (fun a : (List Int) => ((eL eI) a, [none, some (eST state), none, none, none, none, some ((eL eI) order), some ((eL eI) handed), none, some ((eL eI) drawn), none, none, none, none, none])) (CE.call (CA.cons rfl (SR.bind (SE.by_ (fun a : (List Int) => ((eL eI) a, [none, some (eST state), none, none, none, none, some ((eL eI) order), some ((eL eI) handed), none, some ((eL eI) drawn), none, none, none, none, none])) (CE.call (CA.cons rfl (SR.bindp (PE.b1 (PE.var (d := (eL eI) drawn) rfl) (op_list (e := eI) (l := drawn))) (CA.nil (SR.bindp rfl (SR.last (S.order_of_code_ok (k := k + 7) drawn) fun _ => ⟨_, rfl, rfl⟩))))))) fun t71 => CA.nil (SR.bindp rfl (SR.last (S.code_ok (k := k + 7) t71) fun _ => ⟨_, rfl, rfl⟩)))))) fun t73 => SR.bindp (PE.var (d := (eL eI) drawn) rfl) (SR.bindp (ofo (op_neT (EqOk.list EqOk.int) (by decide) t73 drawn)) (SR.ok rfl))))) fun _ => ⟨_, rfl, rfl⟩))) (
 G.kill (env1 := [none, none, none, none, none, none, some ((eL eI) order), some ((eL eI) handed), none, some ((eL eI) drawn), none, none, none, none, none]) rfl (G.kill (env1 := [none, none, none, none, none, none, none, some ((eL eI) handed), none, some ((eL eI) drawn), none, none, none, none, none]) rfl (G.kill (env1 := [none, none, none, none, none, none, none, none, none, some ((eL eI) drawn), none, none, none, none, none]) rfl (G.kill (env1 := [none, none, none, none, none, none, none, none, none, none, none, none, none, none, none]) rfl (G.ret PE.bl (FQ.rt' rfl)))))) (
 G.kill (env1 := [none, some (eST state), none, none, none, none, some ((eL eI) order), some ((eL eI) handed), none, none, none, none, none, none, none]) rfl (G.nil (G.asgm (e2 := (fun a : (List (List Int)) => [none, some (eST state), none, none, none, none, some ((eL eI) order), some ((eL eI) handed), none, none, some ((eL (eL eI)) a), none, none, none, none])) (SE.by_ (fun a : (List (List Int)) => ((eL (eL eI)) a, [none, some (eST state), none, none, none, none, some ((eL eI) order), some ((eL eI) handed), none, none, none, none, none, none, none])) (CE.call (CA.cons rfl (SR.bindp (PE.var (d := (eL eI) order) rfl) (CA.nil (SR.bindp rfl (SR.last (S.u_law_rings_ok (k := k + 7) order) fun _ => ⟨_, rfl, rfl⟩))))))) (fun _ => rfl) (fun rings =>
 G.asgm (e2 := (fun a : (List Int) => [none, some (eST state), none, none, none, none, some ((eL eI) order), some ((eL eI) handed), none, none, some ((eL (eL eI)) rings), some ((eL eI) a), none, none, none])) (SE.by_ (fun a => ((eL eI) a, [none, some (eST state), none, none, none, none, some ((eL eI) order), some ((eL eI) handed), none, none, some ((eL (eL eI)) rings), none, none, none, none])) (SR.of (PE.lst PEs.nil) rfl)) (fun _ => rfl) (fun line =>
 G.for_ (es := (fun a : (List Int) => [none, some (eST state), none, none, none, none, some ((eL eI) order), some ((eL eI) handed), none, none, some ((eL (eL eI)) rings), some ((eL eI) a), none, none, none])) line (W.itL (e := (eL eI)) (PE.var (d := (eL (eL eI)) rings) rfl)) rfl (fun ring line => SR.bindp (g := [none, some (eST state), none, none, none, none, some ((eL eI) order), some ((eL eI) handed), none, none, some ((eL (eL eI)) rings), some ((eL eI) line), some ((eL eI) ring), none, none]) rfl (G.start (
 G.asgm (e2 := (fun a : (List Int) => [none, some (eST state), none, none, none, none, some ((eL eI) order), some ((eL eI) handed), none, none, some ((eL (eL eI)) rings), some ((eL eI) a), some ((eL eI) ring), none, none])) (SE.by_ (fun a : (List Int) => ((eL eI) a, [none, some (eST state), none, none, none, none, some ((eL eI) order), some ((eL eI) handed), none, none, some ((eL (eL eI)) rings), some ((eL eI) line), some ((eL eI) ring), none, none])) (CE.bin (SR.bindp (PE.var (d := (eL eI) line) rfl) (SR.bindp (PE.var (d := (eL eI) ring) rfl) (SR.last (op_addL (e := eI) (a := line) (b := ring)) fun _ => ⟨_, rfl, rfl⟩))))) (fun _ => rfl) (fun line =>
 G.kill (env1 := [none, some (eST state), none, none, none, none, some ((eL eI) order), some ((eL eI) handed), none, none, some ((eL (eL eI)) rings), some ((eL eI) line), none, none, none]) rfl (G.nil (SR.ok (.inl rfl))))))) (fun line =>
 G.item (SE.by_ (fun a => (a, [none, some (eST state), none, none, none, none, some ((eL eI) order), some ((eL eI) handed), none, none, some ((eL (eL eI)) rings), some ((eL eI) line), none, none, none])) (CT.or (SE.by_ (fun a => (a, [none, some (eST state), none, none, none, none, some ((eL eI) order), some ((eL eI) handed), none, none, some ((eL (eL eI)) rings), some ((eL eI) line), none, none, none])) (CTo.two (SR.bind (SE.by_ (fun a => (a, [none, some (eST state), none, none, none, none, some ((eL eI) order), some ((eL eI) handed), none, none, some ((eL (eL eI)) rings), some ((eL eI) line), none, none, none])) (CT.val (SR.last (SE.by_ (fun a : Bool => (eB a, [none, some (eST state), none, none, none, none, some ((eL eI) order), some ((eL eI) handed), none, none, some ((eL (eL eI)) rings), some ((eL eI) line), none, none, none])) (CE.bin (SR.bind (SE.by_ (fun a : (List Int) => ((eL eI) a, [none, some (eST state), none, none, none, none, some ((eL eI) order), some ((eL eI) handed), none, none, some ((eL (eL eI)) rings), some ((eL eI) line), none, none, none])) (CE.call (CA.cons rfl (SR.bindp (PE.var (d := (eL eI) handed) rfl) (CA.nil (SR.bindp rfl (SR.last (S.rings_as_lows_ok (k := k + 7) handed) fun _ => ⟨_, rfl, rfl⟩))))))) fun t78 => SR.bindp (PE.var (d := (eL eI) line) rfl) (SR.bindp (ofo (op_neT (EqOk.list EqOk.int) (by decide) t78 line)) (SR.ok rfl))))) fun _ => ⟨_, rfl, rfl⟩))) fun t90 => SR.ifb (SR.ok rfl) (CTo.two (SR.bind (SE.by_ (fun a => (a, [none, some (eST state), none, none, none, none, some ((eL eI) order), some ((eL eI) handed), none, none, some ((eL (eL eI)) rings), some ((eL eI) line), none, none, none])) (CT.val (SR.last (SE.by_ (fun a : Bool => (eB a, [none, some (eST state), none, none, none, none, some ((eL eI) order), some ((eL eI) handed), none, none, some ((eL (eL eI)) rings), some ((eL eI) line), none, none, none])) (CE.bin (SR.bind (SE.by_ (fun a : (List Int) => ((eL eI) a, [none, some (eST state), none, none, none, none, some ((eL eI) order), some ((eL eI) handed), none, none, some ((eL (eL eI)) rings), some ((eL eI) line), none, none, none])) (CE.call (CA.cons rfl (SR.bindp (PE.b1 (PE.var (d := (eL eI) line) rfl) (op_list (e := eI) (l := line))) (CA.nil (SR.bindp rfl (SR.last (S.lows_as_rings_ok (k := k + 6) line) fun _ => ⟨_, rfl, rfl⟩))))))) fun t81 => SR.bindp (PE.var (d := (eL eI) order) rfl) (SR.bindp (ofo (op_neT (EqOk.list EqOk.int) (by decide) t81 order)) (SR.ok rfl))))) fun _ => ⟨_, rfl, rfl⟩))) fun t89 => SR.ifb (SR.ok rfl) (CTo.one (SE.by_ (fun a => (a, [none, some (eST state), none, none, none, none, some ((eL eI) order), some ((eL eI) handed), none, none, some ((eL (eL eI)) rings), some ((eL eI) line), none, none, none])) (CT.val (SR.last (SE.by_ (fun a : Bool => (eB a, [none, some (eST state), none, none, none, none, some ((eL eI) order), some ((eL eI) handed), none, none, some ((eL (eL eI)) rings), some ((eL eI) line), none, none, none])) (CE.bin (SR.bind (SE.by_ (fun a : (List Int) => ((eL eI) a, [none, some (eST state), none, none, none, none, some ((eL eI) order), some ((eL eI) handed), none, none, some ((eL (eL eI)) rings), some ((eL eI) line), none, none, none])) (CE.call (CA.cons rfl (SR.bind (SE.by_ (fun a : (List Int) => ((eL eI) a, [none, some (eST state), none, none, none, none, some ((eL eI) order), some ((eL eI) handed), none, none, some ((eL (eL eI)) rings), some ((eL eI) line), none, none, none])) (CE.call (CA.cons rfl (SR.bindp (PE.var (d := (eL eI) handed) rfl) (CA.nil (SR.bindp rfl (SR.last (S.lows_as_rings_ok (k := k + 6) handed) fun _ => ⟨_, rfl, rfl⟩))))))) fun t86 => CA.nil (SR.bindp rfl (SR.last (S.rings_as_lows_ok (k := k + 7) t86) fun _ => ⟨_, rfl, rfl⟩)))))) fun t88 => SR.bindp (PE.var (d := (eL eI) order) rfl) (SR.bindp (ofo (op_neT (EqOk.list EqOk.int) (by decide) t88 order)) (SR.ok rfl))))) fun _ => ⟨_, rfl, rfl⟩))))))))))) (
 G.kill (env1 := [none, none, none, none, none, none, some ((eL eI) order), some ((eL eI) handed), none, none, some ((eL (eL eI)) rings), some ((eL eI) line), none, none, none]) rfl (G.kill (env1 := [none, none, none, none, none, none, none, some ((eL eI) handed), none, none, some ((eL (eL eI)) rings), some ((eL eI) line), none, none, none]) rfl (G.kill (env1 := [none, none, none, none, none, none, none, none, none, none, some ((eL (eL eI)) rings), some ((eL eI) line), none, none, none]) rfl (G.kill (env1 := [none, none, none, none, none, none, none, none, none, none, none, some ((eL eI) line), none, none, none]) rfl (G.kill (env1 := [none, none, none, none, none, none, none, none, none, none, none, none, none, none, none]) rfl (G.ret PE.bl (FQ.rt' rfl))))))) (
 G.nil (G.item (SE.by_ (fun a => (a, [none, some (eST state), none, none, none, none, some ((eL eI) order), some ((eL eI) handed), none, none, some ((eL (eL eI)) rings), some ((eL eI) line), none, none, none])) (CT.or (SE.by_ (fun a => (a, [none, some (eST state), none, none, none, none, some ((eL eI) order), some ((eL eI) handed), none, none, some ((eL (eL eI)) rings), some ((eL eI) line), none, none, none])) (CTo.two (SR.bind (SE.by_ (fun a => (a, [none, some (eST state), none, none, none, none, some ((eL eI) order), some ((eL eI) handed), none, none, some ((eL (eL eI)) rings), some ((eL eI) line), none, none, none])) (CT.val (SR.last (SE.by_ (fun a : Bool => (eB a, [none, some (eST state), none, none, none, none, some ((eL eI) order), some ((eL eI) handed), none, none, some ((eL (eL eI)) rings), some ((eL eI) line), none, none, none])) (CE.bin (SR.bind (SE.by_ (fun a : Int => (eI a, [none, some (eST state), none, none, none, none, some ((eL eI) order), some ((eL eI) handed), none, none, some ((eL (eL eI)) rings), some ((eL eI) line), none, none, none])) (CE.b1 (SR.bind (SE.by_ (fun a : (List Int) => ((eL eI) a, [none, some (eST state), none, none, none, none, some ((eL eI) order), some ((eL eI) handed), none, none, some ((eL (eL eI)) rings), some ((eL eI) line), none, none, none])) (CE.call (CA.cons rfl (SR.bindp (PE.b1 (PE.var (d := (eL eI) line) rfl) (op_list (e := eI) (l := line))) (CA.nil (SR.bindp rfl (SR.last (S.high_ones_ok (k := k + 7) line) fun _ => ⟨_, rfl, rfl⟩))))))) fun t95 => SR.bindp (ofo (op_lenL (e := eI) t95)) (SR.ok rfl)))) fun t96 => SR.bindp (PE.b1 (PE.var (d := (eL (eL eI)) rings) rfl) (op_lenL (e := (eL eI)) rings)) (SR.bindp (ofo (op_neT EqOk.int (by decide) t96 (rings.length : Int))) (SR.ok rfl))))) fun _ => ⟨_, rfl, rfl⟩))) fun t99 => SR.ifb (SR.ok rfl) (CTo.one (SE.by_ (fun a => (a, [none, some (eST state), none, none, none, none, some ((eL eI) order), some ((eL eI) handed), none, none, some ((eL (eL eI)) rings), some ((eL eI) line), none, none, none])) (CT.nt (SR.bind (SE.by_ (fun a => (a, [none, some (eST state), none, none, none, none, some ((eL eI) order), some ((eL eI) handed), none, none, some ((eL (eL eI)) rings), some ((eL eI) line), none, none, none])) (CT.val (SR.last (SE.by_ (fun a : Bool => (eB a, [none, some (eST state), none, none, none, none, some ((eL eI) order), some ((eL eI) handed), none, none, some ((eL (eL eI)) rings), some ((eL eI) line), none, none, none])) (CE.call (CA.cons rfl (SR.bindp (PE.var (d := (eL eI) handed) rfl) (CA.cons rfl (SR.bindp (PE.var (d := (eL eI) order) rfl) (CA.nil (SR.bindp rfl (SR.last (S.u_law_same_ok (k + 0) 8 ((eL eI) handed) ((eL eI) order)) fun _ => ⟨_, rfl, rfl⟩))))))))) fun _ => ⟨_, rfl, rfl⟩))) fun t98 => SR.ok rfl))))))))) (
 G.kill (env1 := [none, none, none, none, none, none, some ((eL eI) order), some ((eL eI) handed), none, none, some ((eL (eL eI)) rings), some ((eL eI) line), none, none, none]) rfl (G.kill (env1 := [none, none, none, none, none, none, none, some ((eL eI) handed), none, none, some ((eL (eL eI)) rings), some ((eL eI) line), none, none, none]) rfl (G.kill (env1 := [none, none, none, none, none, none, none, none, none, none, some ((eL (eL eI)) rings), some ((eL eI) line), none, none, none]) rfl (G.kill (env1 := [none, none, none, none, none, none, none, none, none, none, none, some ((eL eI) line), none, none, none]) rfl (G.kill (env1 := [none, none, none, none, none, none, none, none, none, none, none, none, none, none, none]) rfl (G.ret PE.bl (FQ.rt' rfl))))))) (
 G.kill (env1 := [none, some (eST state), none, none, none, none, none, some ((eL eI) handed), none, none, some ((eL (eL eI)) rings), some ((eL eI) line), none, none, none]) rfl (G.kill (env1 := [none, some (eST state), none, none, none, none, none, none, none, none, some ((eL (eL eI)) rings), some ((eL eI) line), none, none, none]) rfl (G.kill (env1 := [none, some (eST state), none, none, none, none, none, none, none, none, none, some ((eL eI) line), none, none, none]) rfl (G.kill (env1 := [none, some (eST state), none, none, none, none, none, none, none, none, none, none, none, none, none]) rfl (G.nil (G.nil (SR.ok (.inl rfl))))))))))))))))))))))))))) (fun state =>
 G.kill (env1 := [none, none, none, none, none, none, none, none, none, none, none, none, none, none, none]) rfl (G.ret PE.bl (TQ.rt rfl))) (fun r f h => SR.ok h.toT)))))))))))))))))
/-! ### common: draws and orders (about the law's own functions) -/
theorem nodup_len {α : Type} [DecidableEq α] : ∀ (l m : List α), l.Nodup → (∀ x ∈ l, x ∈ m) → l.length ≤ m.length
  | [], _, _, _ => Nat.zero_le _
  | x :: l, m, h, g => by
    have hx := g x (by simp)
    have h1 := List.nodup_cons.mp h
    have := nodup_len l (m.erase x) h1.2 fun y hy => (List.mem_erase_of_ne (by rintro rfl; exact h1.1 hy)).mpr (g y (by simp [hy]))
    rw [List.length_erase_of_mem hx] at this
    have : 0 < m.length := List.length_pos_of_mem hx
    simp only [List.length_cons]; omega
theorem perm_of_nodup {α : Type} [DecidableEq α] {l m : List α} (hl : l.Nodup) (hm : m.Nodup) (h : ∀ x ∈ l, x ∈ m) (hlen : m.length ≤ l.length) : l.Perm m := by
  refine (List.perm_ext_iff_of_nodup hl hm).mpr fun y => ⟨h y, fun hy => ?_⟩
  by_cases c : y ∈ l
  · exact c
  · have := nodup_len (y :: l) m (List.nodup_cons.mpr ⟨c, hl⟩) fun z hz => by
      rcases List.mem_cons.mp hz with rfl | hz
      · exact hy
      · exact h z hz
    simp only [List.length_cons] at this; omega
/-- 1 .. n -/
def upTo (n : Nat) : List Int := (List.range n).map fun (i : Nat) => 1 + (i : Int)
theorem upTo_len (n : Nat) : (upTo n).length = n := by simp [upTo]
theorem mem_upTo {n : Nat} {x : Int} : x ∈ upTo n ↔ 1 ≤ x ∧ x ≤ n := by
  unfold upTo
  rw [List.mem_map]
  constructor
  · rintro ⟨i, hi, rfl⟩; simp at hi; omega
  · intro h; exact ⟨(x - 1).toNat, by simp; omega, by omega⟩
theorem upTo_nodup (n : Nat) : (upTo n).Nodup := by
  unfold upTo List.Nodup
  rw [List.pairwise_map]
  exact (List.nodup_range (n := n)).imp fun h e => h (by omega)
theorem upTo_rng (n : Nat) : rangeI 1 ((n : Int) + 1) = upTo n := by
  unfold rangeI upTo; rw [show ((n : Int) + 1 - 1).toNat = n by omega]
def IsOrd (l : List Int) : Prop := l.Nodup ∧ ∀ x ∈ l, 1 ≤ x ∧ x ≤ l.length
theorem IsOrd.perm {l : List Int} (h : IsOrd l) : l.Perm (upTo l.length) := perm_of_nodup h.1 (upTo_nodup _) (fun x hx => mem_upTo.mpr (h.2 x hx)) (by simp [upTo_len])
theorem IsOrd.of_perm {l : List Int} {n : Nat} (h : l.Perm (upTo n)) : IsOrd l ∧ l.length = n := by
  have e : l.length = n := by rw [h.length_eq, upTo_len]
  exact ⟨⟨h.nodup_iff.mpr (upTo_nodup n), fun x hx => by have := mem_upTo.mp (h.mem_iff.mp hx); omega⟩, e⟩
theorem IsOrd.mem {l : List Int} (h : IsOrd l) {x : Int} : x ∈ l ↔ 1 ≤ x ∧ x ≤ l.length := by rw [h.perm.mem_iff, mem_upTo]
theorem getD_mem {l : List Int} {i : Nat} (h : i < l.length) : l.getD i 0 ∈ l := by
  rw [List.getD_eq_getElem?_getD, List.getElem?_eq_getElem h]; exact List.getElem_mem h
theorem getD_eq {l : List Int} {i : Nat} (h : i < l.length) : l.getD i 0 = l[i] := by
  rw [List.getD_eq_getElem?_getD, List.getElem?_eq_getElem h]; rfl
structure GoodSt (s : St) : Prop where
  ne : s.1 ≠ []
  len : s.1.length < 900000
  at_ : 0 ≤ s.2
theorem next_wp {s : St} {top : Int} (hs : GoodSt s) (h : 0 < top) : Wp (Pl.u_law_next s top) fun r => 0 ≤ r.1 ∧ r.1 < top ∧ GoodSt r.2 := by
  obtain ⟨nums, a⟩ := s
  obtain ⟨h1, h2, h3⟩ := hs
  dsimp only at h1 h2 h3
  have hl : 0 < nums.length := List.length_pos_iff.mpr h1
  have m0 := Int.emod_nonneg a (b := (nums.length : Int)) (by omega)
  have m1 := Int.emod_lt_of_pos a (b := (nums.length : Int)) (by omega)
  unfold Pl.u_law_next
  simp only [mod_ok (i := a) (j := (nums.length : Int)) (by omega), R.bind_ok, ixI_ok m0 m1, fdiv_okn (i := a) (j := (nums.length : Int)) (by omega) (by omega), mod_ok h]
  exact Wp.ok ⟨Int.emod_nonneg _ (by omega), Int.emod_lt_of_pos _ h, h1, h2, by simp only; omega⟩
theorem next_nat {s : St} {n : Nat} (hs : GoodSt s) (h : 0 < n) : Wp (Pl.u_law_next s (n : Int)) fun r => ∃ m : Nat, r.1 = m ∧ m < n ∧ GoodSt r.2 :=
  (next_wp hs (by omega)).wk fun r ⟨h1, h2, h3⟩ => ⟨r.1.toNat, by omega, by omega, h3⟩
theorem draws_wp {cells : List Int} (h : cells ≠ []) (h2 : cells.length ≤ 1000) : Wp (Pl.u_law_draws cells) GoodSt := by
  unfold Pl.u_law_draws
  simp only [R.bind_ok]
  refine Wp.bind (P := fun d : List Int => d.length = 40 * cells.length) ?_ fun d hd => Wp.ok ⟨?_, ?_, Int.le_refl _⟩
  · refine for_pre (fun p (d : List Int) => d.length = 40 * p.length) rfl fun p x q d e hd => ?_
    have hp : p.length < cells.length := by rw [e]; simp
    rw [rng_ok (by decide) (by decide) (by decide) (by decide)]
    simp only [R.bind_ok]
    refine Wp.bind (for_rng (fun i (z : List Int × Int × Int) => (z.1.length : Int) = 40 * p.length + i) (by decide) (by simp [hd]) ?_) fun z hz => Wp.ok ?_
    · rintro i ⟨d, c, sd⟩ i0 i1 hi
      simp only at hi ⊢
      rw [app_ok (by omega)]
      exact Wp.ok (by simp; omega)
    · simp only [List.length_append, List.length_cons, List.length_nil]; omega
  · intro e
    subst e
    simp only [List.length_nil] at hd
    have := List.length_pos_iff.mpr h; omega
  · show d.length < 900000; omega
theorem perm_eraseIdx : ∀ {xs : List Int} {j : Nat}, j < xs.length → (xs.getD j 0 :: xs.eraseIdx j).Perm xs
  | x :: xs, 0, _ => by simp
  | x :: xs, j + 1, h => by
    have := perm_eraseIdx (xs := xs) (j := j) (by simpa using h)
    simp only [List.getD_cons_succ, List.eraseIdx_cons_succ]
    exact (List.Perm.swap x _ _).trans (this.cons x)
theorem eraseIdx_td {α : Type} : ∀ (l : List α) (n : Nat), l.eraseIdx n = l.take n ++ l.drop (n + 1)
  | [], n => by simp
  | x :: l, 0 => by simp
  | x :: l, n + 1 => by simp [eraseIdx_td l n]
theorem order_wp {s : St} {n : Nat} (hs : GoodSt s) (hn : n ≤ 1000) : Wp (Pl.u_law_order s (n : Int)) fun r => IsOrd r.1 ∧ r.1.length = n ∧ GoodSt r.2 := by
  unfold Pl.u_law_order
  simp only [R.bind_ok, rngS_ok (lo := 1) (hi := (n : Int) + 1) (by omega) (by omega) (by omega) (by omega), upTo_rng, rng_ok (lo := 0) (hi := (n : Int)) (by omega) (by omega) (by omega) (by omega)]
  refine Wp.bind (for_rng (fun i (z : St × List Int × List Int) => GoodSt z.1 ∧ (z.2.2 ++ z.2.1).Perm (upTo n) ∧ (z.2.1.length : Int) = n - i) (by omega) ⟨hs, by simp, by simp [upTo_len]⟩ ?_) ?_
  · rintro i ⟨s, left, found⟩ i0 i1 ⟨g, hp, hl⟩
    simp only at g hp hl ⊢
    refine Wp.bind (next_nat g (n := left.length) (by omega)) ?_
    rintro ⟨_, s'⟩ ⟨m, rfl, hm, g'⟩
    try simp only at g' ⊢
    have hf : found.length ≤ n := by have := hp.length_eq; simp [upTo_len] at this; omega
    rw [ix_nat hm, show ((m : Int) + 1) = ((m + 1 : Nat) : Int) by omega, cutL_to, cutL_from]
    simp only [R.bind_ok]
    rw [app_ok (by omega), ← eraseIdx_td]
    simp only [R.bind_ok]
    rw [sz_ok (by simp [List.length_eraseIdx]; split <;> omega)]
    refine Wp.ok ⟨g', ?_, by simp [List.length_eraseIdx, hm]; omega⟩
    simp only [List.append_assoc, List.singleton_append]
    exact ((perm_eraseIdx hm).append_left found).trans hp
  · rintro ⟨s, left, found⟩ ⟨g, hp, hl⟩
    simp only at g hp hl ⊢
    have : left = [] := List.length_eq_zero_iff.mp (by omega)
    subst this
    simp only [List.append_nil] at hp
    exact Wp.ok ⟨(IsOrd.of_perm hp).1, (IsOrd.of_perm hp).2, g⟩
/-- a thing put beside another one -/
theorem made_ord {l : List Int} {a : Nat} {b : Bool} (h : IsOrd l) (ha : a < l.length) : IsOrd ((l.map fun one => one + b2d (decide (one > l.getD a 0))).take a ++ (if b = true then [l.getD a 0, l.getD a 0 + 1] else [l.getD a 0 + 1, l.getD a 0]) ++ (l.map fun one => one + b2d (decide (one > l.getD a 0))).drop (a + 1)) := by
  generalize hv : l.getD a 0 = v
  have hp : (v :: l.eraseIdx a).Perm l := by rw [← hv]; exact perm_eraseIdx ha
  have nd : (v :: l.eraseIdx a).Nodup := hp.nodup_iff.mpr h.1
  have nd1 := List.nodup_cons.mp nd
  have hb : ∀ x ∈ l.eraseIdx a, x ≠ v ∧ 1 ≤ x ∧ x ≤ l.length := fun x hx => ⟨fun e => nd1.1 (e ▸ hx), h.2 x (hp.mem_iff.mp (by simp [hx]))⟩
  have hv1 := h.2 v (hp.mem_iff.mp (by simp))
  generalize hw : (fun one : Int => one + b2d (decide (one > v))) = w
  have w1 : ∀ x, x ≠ v → w x = if x > v then x + 1 else x := fun x hx => by
    subst hw; simp only [b2d]; by_cases c : x > v <;> simp [c]
  have e1 : (l.map w).take a ++ (l.map w).drop (a + 1) = (l.eraseIdx a).map w := by rw [eraseIdx_td, List.map_append, List.map_take, List.map_drop]
  have pr : ((l.map w).take a ++ (if b = true then [v, v + 1] else [v + 1, v]) ++ (l.map w).drop (a + 1)).Perm (v :: (v + 1) :: (l.eraseIdx a).map w) := by
    rw [← e1]
    have q : (if b = true then [v, v + 1] else [v + 1, v]).Perm [v, v + 1] := by
      cases b
      · exact List.Perm.swap _ _ _
      · exact List.Perm.refl _
    refine ((List.perm_append_comm.append_right _)).trans ?_
    rw [List.append_assoc]
    exact q.append_right _
  have hlen : ((l.map w).take a ++ (if b = true then [v, v + 1] else [v + 1, v]) ++ (l.map w).drop (a + 1)).length = l.length + 1 := by
    rw [pr.length_eq]; simp [List.length_eraseIdx, ha]; omega
  refine ⟨pr.nodup_iff.mpr ?_, fun x hx => ?_⟩
  · refine List.nodup_cons.mpr ⟨?_, List.nodup_cons.mpr ⟨?_, ?_⟩⟩
    · intro hx
      rcases List.mem_cons.mp hx with hx | hx
      · omega
      · obtain ⟨y, hy, e⟩ := List.mem_map.mp hx
        have := hb y hy
        rw [w1 y this.1] at e; split at e <;> omega
    · intro hx
      obtain ⟨y, hy, e⟩ := List.mem_map.mp hx
      have := hb y hy
      rw [w1 y this.1] at e; split at e <;> omega
    · unfold List.Nodup
      rw [List.pairwise_map]
      refine nd1.2.imp_of_mem fun {x y} hx hy hne e => hne ?_
      have := hb x hx
      have := hb y hy
      rw [w1 x (by omega), w1 y (by omega)] at e
      split at e <;> split at e <;> omega
  · rw [hlen]
    rcases List.mem_cons.mp (pr.mem_iff.mp hx) with rfl | hx
    · omega
    rcases List.mem_cons.mp hx with rfl | hx
    · omega
    obtain ⟨y, hy, rfl⟩ := List.mem_map.mp hx
    have := hb y hy
    rw [w1 y this.1]; split <;> omega
theorem made_wp {s : St} {n : Nat} (hs : GoodSt s) (hn : n ≤ 1000) (h1 : 1 ≤ n) : Wp (Pl.u_law_made s (n : Int)) fun r => IsOrd r.1 ∧ r.1.length ≤ n ∧ 1 ≤ r.1.length ∧ GoodSt r.2 := by
  unfold Pl.u_law_made
  simp only [R.bind_ok, rng_ok (lo := 0) (hi := (n : Int) - 1) (by omega) (by omega) (by omega) (by omega)]
  refine Wp.bind (for_rng (fun i (z : St × List Int) => GoodSt z.1 ∧ IsOrd z.2 ∧ (z.2.length : Int) ≤ 1 + i ∧ 1 ≤ z.2.length) (by omega) ⟨hs, ⟨by simp, by simp⟩, by simp, by simp⟩ ?_) ?_
  · rintro i ⟨s, found⟩ i0 i1 ⟨g, ho, hl, hl1⟩
    simp only at g ho hl hl1 ⊢
    refine Wp.bind (next_nat g (n := found.length) (by omega)) ?_
    rintro ⟨_, s'⟩ ⟨m, rfl, hm, g'⟩
    simp only at g' ⊢
    rw [ix_nat hm]
    simp only [R.bind_ok]
    refine Wp.bind (next_wp g' (by decide)) ?_
    rintro ⟨w, s''⟩ ⟨w0, w1, g''⟩
    simp only at w0 w1 g'' ⊢
    by_cases c : w < 2
    · have hmo := made_ord (b := decide (w = 0)) ho hm
      rw [show ((m : Int) + 1) = ((m + 1 : Nat) : Int) by omega]
      simp only [c, decide_true, if_true, cutL_to, cutL_from]
      rw [sz_ok (by simp; omega)]
      simp only [R.bind_ok]
      rw [sz_ok (by simp; split <;> simp <;> omega)]
      simp only [R.bind_ok]
      rw [sz_ok (by simp; split <;> simp <;> omega)]
      simp only [R.bind_ok, cutL_from, cutL_to]
      refine Wp.ok ⟨g'', hmo, ?_, ?_⟩
      · simp only [List.length_append, List.length_take, List.length_drop, List.length_map]; split <;> simp <;> omega
      · simp only [List.length_append, List.length_take, List.length_drop, List.length_map]; split <;> simp <;> omega
    · simp only [c, decide_false, Bool.false_eq_true, if_false]
      exact Wp.ok ⟨g'', ho, by dsimp only; omega, hl1⟩
  · rintro ⟨s, found⟩ ⟨g, ho, hl, hl1⟩
    simp only at g ho hl hl1 ⊢
    exact Wp.ok ⟨ho, by dsimp only; omega, hl1, g⟩
theorem any_wp {s : St} {n : Nat} (hs : GoodSt s) (hn : n ≤ 1000) (h1 : 1 ≤ n) : Wp (Pl.u_law_any_order s (n : Int)) fun r => IsOrd r.1 ∧ r.1.length ≤ n ∧ GoodSt r.2 := by
  unfold Pl.u_law_any_order
  refine Wp.bind (next_wp hs (by decide)) ?_
  rintro ⟨w, s'⟩ ⟨w0, w1, g⟩
  simp only at w0 w1 g ⊢
  by_cases c : w = 0
  · simp only [c, decide_true, if_true]
    exact (made_wp g hn h1).wk fun r ⟨a, b, _, d⟩ => ⟨a, b, d⟩
  · simp only [c, decide_false, Bool.false_eq_true, if_false]
    refine Wp.bind (P := fun r : Int × St => ∃ m : Nat, r.1 = (m : Int) ∧ m < n + 1 ∧ GoodSt r.2) (by have := next_nat g (n := n + 1) (by omega); simpa using this) ?_
    rintro ⟨_, s''⟩ ⟨m, rfl, hm, g'⟩
    refine Wp.bind (order_wp g' (n := m) (by omega)) ?_
    rintro ⟨o, s3⟩ ⟨a, b, d⟩
    exact Wp.ok ⟨a, by simp only at b ⊢; omega, d⟩
/-! ### common: copied, same -/
/-- what copied gives back as it is -/
def cpOk : Nat → D → Bool
  | 0, _ => false
  | n + 1, .lst ds => decide (ds.length ≤ 1000000) && ds.all (cpOk n)
  | n + 1, .tup ds => decide (ds.length ≤ 1000000) && ds.all (cpOk n)
  | _ + 1, .dic _ => false
  | _ + 1, .dit _ => false
  | _ + 1, .scr _ => false
  | _ + 1, _ => true
theorem copied_ok : ∀ (n : Nat) (d : D), cpOk n d = true → Pl.u_law_copied n d = .ok d
  | 0, _, h => by cases h
  | n + 1, d, h => by
    unfold Pl.u_law_copied
    have key : ∀ ds : List D, ds.length ≤ 1000000 → ds.all (cpOk n) = true → (R.mapM (fun one => Pl.u_law_copied n one) ds).bind R.sz = .ok ds := fun ds h1 h2 => by
      rw [mapM_eq (fun d => d) ds fun x hx => copied_ok n x (List.all_eq_true.mp h2 x hx)]
      simp only [R.bind_ok, List.map_id']
      exact sz_ok (by omega)
    cases d with
    | lst ds =>
      simp only [cpOk, Bool.and_eq_true, decide_eq_true_eq] at h
      show (R.bind ((R.mapM (fun one => Pl.u_law_copied n one) ds).bind R.sz) fun parts => _) = _
      rw [key ds h.1 h.2]
      show R.ok (eL eA ds) = _
      rw [eLA]
    | tup ds =>
      simp only [cpOk, Bool.and_eq_true, decide_eq_true_eq] at h
      show (R.bind ((R.mapM (fun one => Pl.u_law_copied n one) ds).bind R.sz) fun parts => _) = _
      rw [key ds h.1 h.2]
      show R.ok (eQ eA ds) = _
      rw [eQA]
    | non => rfl
    | bl b => rfl
    | int i => rfl
    | str s => rfl
    | dic _ => cases h
    | dit _ => cases h
    | scr _ => cases h
def CpOk {α : Type} (n : Nat) (P : α → Prop) (e : α → D) : Prop := ∀ a, P a → cpOk n (e a) = true
theorem CpOk.int {n : Nat} {P : Int → Prop} : CpOk (n + 1) P eI := fun _ _ => rfl
theorem CpOk.list {α : Type} {n : Nat} {P : α → Prop} {e : α → D} (h : CpOk n P e) : CpOk (n + 1) (fun l => l.length ≤ 1000000 ∧ ∀ x ∈ l, P x) (eL e) := fun l hl => by
  show (decide ((l.map e).length ≤ 1000000) && (l.map e).all (cpOk n)) = true
  rw [List.length_map, decide_eq_true hl.1, Bool.true_and, List.all_map, List.all_eq_true]
  exact fun x hx => h x (hl.2 x hx)
theorem copied_T {α : Type} {n : Nat} {P : α → Prop} {e : α → D} {f : D → Option α} (h : CpOk n P e) (hf : ∀ a, f (e a) = some a) {a : α} (ha : P a) : ((Pl.u_law_copied n (e a)).bind fun t => ofOpt (f t)) = .ok a := by
  rw [copied_ok n _ (h a ha)]
  simp only [R.bind_ok, hf, ofOpt]
theorem copied_LI {l : List Int} (h : l.length ≤ 1000000) : ((Pl.u_law_copied 8 (eL eI l)).bind fun t => ofOpt (dL dI t)) = .ok l := copied_T (P := fun l => l.length ≤ 1000000 ∧ ∀ x ∈ l, True) (CpOk.list (n := 7) CpOk.int) dLI ⟨h, fun _ _ => trivial⟩
theorem copied_LLI {l : List (List Int)} (h : l.length ≤ 1000000) (h2 : ∀ x ∈ l, x.length ≤ 1000000) : ((Pl.u_law_copied 8 (eL (eL eI) l)).bind fun t => ofOpt (dL (dL dI) t)) = .ok l := copied_T (P := fun l => l.length ≤ 1000000 ∧ ∀ x ∈ l, (x.length ≤ 1000000 ∧ ∀ y ∈ x, True)) (CpOk.list (n := 7) (CpOk.list CpOk.int)) dLLI ⟨h, fun x hx => ⟨h2 x hx, fun _ _ => trivial⟩⟩
def SmOk {α : Type} [DecidableEq α] (n : Nat) (P : α → Prop) (e : α → D) : Prop := ∀ a b, P a → P b → Pl.u_law_same n (e a) (e b) = .ok (decide (a = b))
theorem SmOk.int {n : Nat} {P : Int → Prop} : SmOk (n + 1) P eI := fun a b _ _ => by
  show R.eqA (eI a) (eI b) = _
  unfold R.eqA
  rw [show (shp (eI a) && shp (eI b)) = true from rfl, if_pos rfl, EqOk.int.eq]
theorem all_range_eq {α : Type} [DecidableEq α] [Inhabited α] : ∀ (l m : List α), l.length = m.length → ((List.range l.length).all fun k => decide (l.getD k default = m.getD k default)) = decide (l = m)
  | [], [], _ => rfl
  | [], _ :: _, h => by simp at h
  | _ :: _, [], h => by simp at h
  | x :: l, y :: m, h => by
    have ih := all_range_eq l m (by simpa using h)
    rw [List.length_cons, List.range_succ_eq_map, List.all_cons, List.all_map]
    simp only [Function.comp_def, List.getD_cons_zero, List.getD_cons_succ, ih]
    by_cases c : x = y <;> by_cases c2 : l = m <;> simp [c, c2]
theorem SmOk.list {α : Type} [DecidableEq α] [Inhabited α] {n : Nat} {P : α → Prop} {e : α → D} (h : SmOk n P e) : SmOk (n + 1) (fun l => l.length ≤ 1000000 ∧ ∀ x ∈ l, P x) (eL e) := fun l m hl hm => by
  have e1 : Pl.u_law_same (n + 1) (eL e l) (eL e m) = if (!decide (((l.map e).length : Int) = ((m.map e).length : Int))) = true then R.ok false else (((R.rng 0 ((l.map e).length : Int)).bind fun xs => (R.mapM (fun k => (((R.op Op2.idx (eA (eL e l)) (eI k))).bind fun t20 => ((R.op Op2.idx (eA (eL e m)) (eI k))).bind fun t21 => Pl.u_law_same n t20 t21)) xs).bind R.sz).bind fun t23 => R.ok (t23.all id)) := by
    have i1 : ∀ l : List α, R.isi [Ty.dict] (eL e l) = .ok false := fun _ => rfl
    have i2 : ∀ l : List α, R.isi [Ty.list, Ty.tuple] (eL e l) = .ok true := fun _ => rfl
    have i3 : ∀ l : List α, R.isi [Ty.list] (eL e l) = .ok true := fun _ => rfl
    have i4 : ∀ l : List α, R.b1I B1.len (eA (eL e l)) = .ok ((l.map e).length : Int) := fun _ => rfl
    rw [Pl.u_law_same]
    simp (implicitDefEqProofs := false) only [i1, i2, i3, i4, R.bind_ok, Bool.false_eq_true, if_false, if_true, decide_true, Bool.not_true]
  rw [e1, List.length_map, List.length_map]
  by_cases c : l.length = m.length
  · rw [if_neg (by simp [c]), rng_ok (by decide) (by decide) (by omega) (by have := hl.1; omega), R.bind_ok, rangeI_nat]
    have hop : ∀ (l : List α) (k : Nat), k < l.length → R.op Op2.idx (eA (eL e l)) (eI (k : Int)) = .ok (e (l.getD k default)) := fun l k hk => by
      have : opF2 .idx (eL e l) (.int (k : Int)) = some (e (l.getD k default)) := by
        show atI (l.map e) (k : Int) = _
        rw [atI_map]
        unfold atI
        rw [ixN_nat (by omega) (by omega)]
        simp [List.getD_eq_getElem?_getD, List.getElem?_eq_getElem hk]
      unfold R.op
      rw [show opF2 Op2.idx (eA (eL e l)) (eI (k : Int)) = _ from this]; rfl
    have hz : R.mapM (fun k => (((R.op Op2.idx (eA (eL e l)) (eI k))).bind fun t20 => ((R.op Op2.idx (eA (eL e m)) (eI k))).bind fun t21 => Pl.u_law_same n t20 t21)) ((List.range l.length).map fun (i : Nat) => (i : Int)) = .ok ((List.range l.length).map fun k => decide (l.getD k default = m.getD k default)) := by
      have := mapM_eq (f := fun k => (((R.op Op2.idx (eA (eL e l)) (eI k))).bind fun t20 => ((R.op Op2.idx (eA (eL e m)) (eI k))).bind fun t21 => Pl.u_law_same n t20 t21)) (fun i => decide (l.getD i.toNat default = m.getD i.toNat default)) ((List.range l.length).map fun (i : Nat) => (i : Int)) (by
        intro i hi
        obtain ⟨k, hk, rfl⟩ := List.mem_map.mp hi
        have hk : k < l.length := by simpa using hk
        have gm : ∀ (l : List α), k < l.length → l.getD k default ∈ l := fun l h => by
          rw [List.getD_eq_getElem?_getD, List.getElem?_eq_getElem h]; exact List.getElem_mem h
        rw [hop l k hk, hop m k (by omega)]
        simp only [R.bind_ok, Int.toNat_natCast]
        exact h _ _ (hl.2 _ (gm l hk)) (hm.2 _ (gm m (by omega))))
      rw [this, List.map_map]
      simp only [Function.comp_def, Int.toNat_natCast]
    rw [hz]
    simp only [R.bind_ok]
    rw [sz_ok (by simp; have := hl.1; omega)]
    simp only [R.bind_ok, List.all_map, Function.comp_def, id]
    rw [all_range_eq l m c]
  · rw [if_pos (by simp; omega)]
    have : l ≠ m := fun q => c (by rw [q])
    simp [this]
theorem same_LI {l m : List Int} (h : l.length ≤ 1000000) (h2 : m.length ≤ 1000000) : Pl.u_law_same 8 (eL eI l) (eL eI m) = .ok (decide (l = m)) := SmOk.list (n := 7) (P := fun _ => True) SmOk.int l m ⟨h, fun _ _ => trivial⟩ ⟨h2, fun _ _ => trivial⟩
theorem same_LLI {l m : List (List Int)} (h : l.length ≤ 1000000) (h1 : ∀ x ∈ l, x.length ≤ 1000000) (h2 : m.length ≤ 1000000) (h3 : ∀ x ∈ m, x.length ≤ 1000000) : Pl.u_law_same 8 (eL (eL eI) l) (eL (eL eI) m) = .ok (decide (l = m)) := SmOk.list (n := 7) (SmOk.list (n := 6) (P := fun _ => True) SmOk.int) l m ⟨h, fun x hx => ⟨h1 x hx, fun _ _ => trivial⟩⟩ ⟨h2, fun x hx => ⟨h3 x hx, fun _ _ => trivial⟩⟩
/-! ### common: all orders -/
def allF : Nat → List (List Int)
  | 0 => [[]]
  | n + 1 => (allF n).flatMap fun o => (List.range (o.length + 1)).map fun k => o.take k ++ [((n : Int) + 1)] ++ o.drop k
theorem allF_len : ∀ n, ∀ o ∈ allF n, o.length = n
  | 0, o, h => by simp [allF] at h; subst h; rfl
  | n + 1, o, h => by
    obtain ⟨p, hp, h⟩ := List.mem_flatMap.mp h
    obtain ⟨k, hk, rfl⟩ := List.mem_map.mp h
    have := allF_len n p hp
    simp at hk ⊢; omega
theorem flatMap_len {α β : Type} {f : α → List β} {m : Nat} : ∀ l : List α, (∀ x ∈ l, (f x).length = m) → (l.flatMap f).length = l.length * m
  | [], _ => by simp
  | x :: l, h => by
    rw [List.flatMap_cons, List.length_append, h x (by simp), flatMap_len l fun y hy => h y (by simp [hy]), List.length_cons, Nat.succ_mul]; omega
theorem allF_count : ∀ n, (allF n).length = facN n
  | 0 => rfl
  | n + 1 => by
    rw [allF, flatMap_len (m := n + 1) _ fun o ho => by simp [allF_len n o ho], allF_count n, facN, Nat.mul_comm]
theorem facN_le : ∀ {n m : Nat}, n ≤ m → facN n ≤ facN m := fun {n m} h => by
  induction h with
  | refl => exact Nat.le_refl _
  | step _ ih => exact Nat.le_trans ih (by rw [facN]; exact Nat.le_mul_of_pos_left _ (by omega))
theorem all_orders_eq {n : Nat} (hn : n ≤ 8) : Pl.u_law_all_orders (n : Int) = .ok (sortR (allF n)) := by
  apply Wp.get
  unfold Pl.u_law_all_orders
  rw [bindR rfl, rng_ok (by decide) (by decide) (by omega) (by omega), bindR rfl]
  refine Wp.bind (for_rng (fun i (z : List (List Int)) => ∃ m : Nat, i = m + 1 ∧ z = allF m) (by omega) ⟨0, by omega, rfl⟩ ?_) ?_
  · rintro i z i0 i1 ⟨m, rfl, rfl⟩
    rw [bindR rfl, bindR rfl]
    have hm : m < n := by omega
    have hc : (allF m).length * (m + 1) ≤ 40320 := by
      have : facN (m + 1) ≤ facN 8 := facN_le (by omega)
      rw [allF_count, Nat.mul_comm]; exact Nat.le_trans this (by decide)
    refine Wp.bind (for_pre (fun p (z : List (List Int)) => z = p.flatMap fun o => (List.range (o.length + 1)).map fun k => o.take k ++ [((m : Int) + 1)] ++ o.drop k) rfl ?_) ?_
    · rintro p o q z e rfl
      have ho := allF_len m o (by rw [e]; simp)
      have hp : (p.flatMap fun o => (List.range (o.length + 1)).map fun k => o.take k ++ [((m : Int) + 1)] ++ o.drop k).length = p.length * (m + 1) := flatMap_len p fun x hx => by
        simp [allF_len m x (by rw [e]; simp [hx])]
      have hpl : (p.length + 1) * (m + 1) ≤ 40320 := by
        refine Nat.le_trans (Nat.mul_le_mul_right _ ?_) hc
        rw [e]; simp
      rw [rng_ok (by decide) (by decide) (by omega) (by omega), bindR rfl]
      rw [show ((o.length : Int) + 1) = ((o.length + 1 : Nat) : Int) by omega, rangeI_nat]
      rw [mapM_eq (fun i : Int => o.take i.toNat ++ [((m : Int) + 1)] ++ o.drop i.toNat) _ (by
        intro i hi
        obtain ⟨k, hk, rfl⟩ := List.mem_map.mp hi
        rw [cutL_to, cutL_from, sz_ok (by simp; omega), bindR rfl, sz_ok (by simp; omega)]
        simp only [Int.toNat_natCast])]
      rw [bindR rfl, sz_ok (by simp; omega), bindR rfl, sz_ok (by
        rw [List.length_append, hp]; simp
        rw [Nat.add_mul] at hpl; omega), bindR rfl]
      refine Wp.ok ?_
      rw [List.flatMap_append, List.flatMap_cons, List.flatMap_nil, List.append_nil, List.map_map]
      simp only [Function.comp_def, Int.toNat_natCast]
    · rintro z rfl
      rw [bindR rfl]
      exact Wp.ok ⟨m + 1, by omega, rfl⟩
  · rintro z ⟨m, e, rfl⟩
    have : m = n := by omega
    subst this
    exact Wp.ok rfl
theorem mem_allF : ∀ {n : Nat} {l : List Int}, l ∈ allF n ↔ IsOrd l ∧ l.length = n
  | 0, l => by
    simp only [allF, List.mem_singleton]
    constructor
    · rintro rfl; exact ⟨⟨List.nodup_nil, fun x h => nomatch h⟩, rfl⟩
    · rintro ⟨_, h⟩; exact List.length_eq_zero_iff.mp h
  | n + 1, l => by
    rw [allF, List.mem_flatMap]
    constructor
    · rintro ⟨o, ho, h⟩
      obtain ⟨k, hk, rfl⟩ := List.mem_map.mp h
      obtain ⟨hO, hl⟩ := mem_allF.mp ho
      have pr : (o.take k ++ [((n : Int) + 1)] ++ o.drop k).Perm (((n : Int) + 1) :: o) := by
        refine (List.perm_append_comm.append_right _).trans ?_
        rw [List.append_assoc, List.take_append_drop]; exact List.Perm.refl _
      have hL : (o.take k ++ [((n : Int) + 1)] ++ o.drop k).length = n + 1 := by rw [pr.length_eq, List.length_cons, hl]
      refine ⟨⟨pr.nodup_iff.mpr (List.nodup_cons.mpr ⟨fun h => by have := hO.2 _ h; omega, hO.1⟩), fun x hx => ?_⟩, hL⟩
      rw [hL]
      rcases List.mem_cons.mp (pr.mem_iff.mp hx) with rfl | hx
      · omega
      · have := hO.2 x hx; omega
    · rintro ⟨hO, hl⟩
      have hm : ((n : Int) + 1) ∈ l := hO.mem.mpr (by omega)
      obtain ⟨a, b, rfl⟩ := List.append_of_mem hm
      have pr : (a ++ ((n : Int) + 1) :: b).Perm (((n : Int) + 1) :: (a ++ b)) := List.perm_middle
      have nd := List.nodup_cons.mp (pr.nodup_iff.mp hO.1)
      have hlen : (a ++ b).length = n := by have := pr.length_eq; simp at this hl ⊢; omega
      refine ⟨a ++ b, mem_allF.mpr ⟨⟨nd.2, fun x hx => ?_⟩, hlen⟩, List.mem_map.mpr ⟨a.length, by simp; omega, by simp⟩⟩
      have h1 := hO.2 x (pr.mem_iff.mpr (by simp at hx ⊢; exact .inr hx))
      have : x ≠ (n : Int) + 1 := fun e => nd.1 (e ▸ hx)
      rw [hlen]; rw [hl] at h1; omega
theorem mem_allS {n : Nat} {l : List Int} : l ∈ sortR (allF n) ↔ IsOrd l ∧ l.length = n := by rw [(sortR_perm (allF n)).mem_iff, mem_allF]
theorem allS_len (n : Nat) : (sortR (allF n)).length = facN n := by rw [(sortR_perm (allF n)).length_eq, allF_count]
/-! ### a quick sort of rows -/
def mrg : Nat → List (List Int) → List (List Int) → List (List Int)
  | 0, xs, ys => xs ++ ys
  | _ + 1, [], ys => ys
  | _ + 1, x :: xs, [] => x :: xs
  | n + 1, x :: xs, y :: ys => if leRow x y = true then x :: mrg n xs (y :: ys) else y :: mrg n (x :: xs) ys
theorem mrg_perm : ∀ (n : Nat) (xs ys : List (List Int)), (mrg n xs ys).Perm (xs ++ ys)
  | 0, xs, ys => List.Perm.refl _
  | _ + 1, [], ys => List.Perm.refl _
  | _ + 1, x :: xs, [] => by simp [mrg]
  | n + 1, x :: xs, y :: ys => by
    unfold mrg
    split
    · exact (mrg_perm n xs (y :: ys)).cons x
    · exact ((mrg_perm n (x :: xs) ys).cons y).trans List.perm_middle.symm
theorem mrg_sorted : ∀ (n : Nat) (xs ys : List (List Int)), xs.length + ys.length ≤ n → xs.Pairwise (· ≤ ·) → ys.Pairwise (· ≤ ·) → (mrg n xs ys).Pairwise (· ≤ ·)
  | 0, xs, ys, h, hx, hy => by
    rw [List.eq_nil_of_length_eq_zero (show xs.length = 0 by omega)]; exact hy
  | _ + 1, [], ys, h, hx, hy => hy
  | _ + 1, x :: xs, [], h, hx, hy => hx
  | n + 1, x :: xs, y :: ys, h, hx, hy => by
    unfold mrg
    simp only [List.length_cons] at h
    split
    · rename_i c
      refine List.pairwise_cons.mpr ⟨fun z hz => ?_, mrg_sorted n xs (y :: ys) (by simp only [List.length_cons]; omega) (List.pairwise_cons.mp hx).2 hy⟩
      rcases List.mem_append.mp ((mrg_perm n xs (y :: ys)).mem_iff.mp hz) with hz | hz
      · exact (List.pairwise_cons.mp hx).1 z hz
      · rcases List.mem_cons.mp hz with rfl | hz
        · exact leRow_iff.mp c
        · exact List.le_trans (leRow_iff.mp c) ((List.pairwise_cons.mp hy).1 z hz)
    · rename_i c
      have hyx : y ≤ x := by
        rcases List.le_total x y with q | q
        · exact (c (leRow_iff.mpr q)).elim
        · exact q
      refine List.pairwise_cons.mpr ⟨fun z hz => ?_, mrg_sorted n (x :: xs) ys (by simp only [List.length_cons]; omega) hx (List.pairwise_cons.mp hy).2⟩
      rcases List.mem_append.mp ((mrg_perm n (x :: xs) ys).mem_iff.mp hz) with hz | hz
      · rcases List.mem_cons.mp hz with rfl | hz
        · exact hyx
        · exact List.le_trans hyx ((List.pairwise_cons.mp hx).1 z hz)
      · exact (List.pairwise_cons.mp hy).1 z hz
def mst : Nat → List (List Int) → List (List Int)
  | 0, l => sortR l
  | d + 1, l => mrg l.length (mst d (l.take (l.length / 2))) (mst d (l.drop (l.length / 2)))
theorem mst_ok : ∀ (d : Nat) (l : List (List Int)), (mst d l).Perm l ∧ (mst d l).Pairwise (· ≤ ·)
  | 0, l => ⟨sortR_perm l, sortR_sorted l⟩
  | d + 1, l => by
    obtain ⟨p1, s1⟩ := mst_ok d (l.take (l.length / 2))
    obtain ⟨p2, s2⟩ := mst_ok d (l.drop (l.length / 2))
    unfold mst
    refine ⟨(mrg_perm _ _ _).trans ((p1.append p2).trans (by rw [List.take_append_drop])), mrg_sorted _ _ _ ?_ s1 s2⟩
    rw [p1.length_eq, p2.length_eq, List.length_take, List.length_drop]; omega
theorem mst_eq (d : Nat) (l : List (List Int)) : sortR l = mst d l := (sortR_only (mst_ok d l).1 (mst_ok d l).2).symm
/-! ### codes -/
def codeM (l : List Int) : List Int := (List.range l.length).map fun i => (((l.drop (i + 1)).filter fun one => decide (one < l.getD i 0)).length : Int)
theorem codeM_cons (x : Int) (l : List Int) : codeM (x :: l) = ((l.filter fun one => decide (one < x)).length : Int) :: codeM l := by
  unfold codeM
  rw [List.length_cons, List.range_succ_eq_map, List.map_cons, List.map_map]
  simp [Function.comp_def]
theorem codeM_len (l : List Int) : (codeM l).length = l.length := by simp [codeM]
/-- the row, with another thing counted -/
theorem row_eq {β : Type} {w : Int → β} {l : List Int} (h : l.length ≤ 1000) : ((R.rng 0 (l.length : Int)).bind fun xs => (R.mapM (fun at_ => (((R.ok (cutL l (some (at_ + (1 : Int))) none)).bind fun xs => (R.fm (fun one => ((((R.ix l at_)).bind fun t54 => R.ok (decide (one < t54)))).bind fun b => if b = true then (R.ok (w one)).bind fun y => R.ok (some y) else R.ok none) xs).bind R.sz).bind fun t55 => R.ok (t55.length : Int))) xs).bind R.sz) = .ok (codeM l) := by
  rw [rng_ok (by decide) (by decide) (by omega) (by omega), bindR rfl, rangeI_nat]
  rw [mapM_eq (fun at_ : Int => (((l.drop (at_.toNat + 1)).filter fun one => decide (one < l.getD at_.toNat 0)).length : Int)) _ (by
    intro i hi
    obtain ⟨k, hk, rfl⟩ := List.mem_map.mp hi
    have hk : k < l.length := by simpa using hk
    rw [bindR rfl, show ((k : Int) + 1) = ((k + 1 : Nat) : Int) by omega, cutL_from]
    rw [fm_eq2 (fun one => decide (one < l.getD k 0)) w _ (fun x _ => by rw [ix_nat hk]; rfl) (fun _ _ _ => rfl)]
    rw [bindR rfl, sz_ok (by rw [List.length_map]; exact Nat.le_trans (List.length_filter_le _ _) (by simp; omega)), bindR rfl, List.length_map, Int.toNat_natCast])]
  rw [bindR rfl, sz_ok (by simp; omega), List.map_map]
  simp only [Function.comp_def, Int.toNat_natCast]; rfl
theorem code_eq {l : List Int} (h : l.length ≤ 1000) : Pl.code l = .ok (codeM l) := row_eq (w := fun one => one) h
theorem turned_eq {l : List Int} (h : l.length ≤ 1000) : Pl.u_law_turned l = .ok (codeM l).sum := by
  unfold Pl.u_law_turned
  rw [bindR (row_eq (w := fun _ => (1 : Int)) h)]
def decM : List Int → List Int → List Int
  | _, [] => []
  | left, r :: rs => left.getD r.toNat 0 :: decM (left.eraseIdx r.toNat) rs
/-- a row that is a code for so many things -/
def RowOk : Nat → List Int → Prop
  | m, [] => m = 0
  | m, r :: rs => 0 ≤ r ∧ r < m ∧ RowOk (m - 1) rs
theorem dec_run : ∀ (row left : List Int), left.length ≤ 1000 → RowOk left.length row → ∃ s, R.mapS (fun number s1 => R.popI s1 number) row left = .ok (decM left row, s)
  | [], left, _, _ => ⟨left, rfl⟩
  | r :: rs, left, h, ⟨h0, h1, h2⟩ => by
    have hr : r.toNat < left.length := by omega
    have hl : (left.eraseIdx r.toNat).length = left.length - 1 := by rw [List.length_eraseIdx, if_pos hr]
    obtain ⟨s, e⟩ := dec_run rs (left.eraseIdx r.toNat) (by omega) (by rw [hl]; exact h2)
    refine ⟨s, ?_⟩
    rw [R.mapS, popI_ok h0 (by omega) (List.getElem?_eq_getElem hr)]
    simp only [e]
    rw [decM, getD_eq hr]
theorem decM_len : ∀ (row left : List Int), (decM left row).length = row.length
  | [], _ => rfl
  | r :: rs, left => by simp [decM, decM_len rs]
theorem ooc_eq {row : List Int} (h : row.length ≤ 1000) (g : RowOk row.length row) : Pl.order_of_code row = .ok (decM (upTo row.length) row) := by
  unfold Pl.order_of_code
  rw [rngS_ok (by decide) (by decide) (by omega) (by omega), bindR rfl, upTo_rng]
  obtain ⟨s, e⟩ := dec_run row (upTo row.length) (by rw [upTo_len]; exact h) (by rw [upTo_len]; exact g)
  rw [bindR rfl, e]
  simp only [R.bind_ok]
  rw [sz_ok (by rw [decM_len]; omega)]; rfl
theorem asc_pos {x : Int} : ∀ {left : List Int}, left.Pairwise (· < ·) → x ∈ left → left[(left.filter fun y => decide (y < x)).length]? = some x
  | [], _, h => nomatch h
  | y :: left, hp, h => by
    have ⟨h1, h2⟩ := List.pairwise_cons.mp hp
    by_cases c : y < x
    · rw [List.filter_cons, if_pos (by simpa using c), List.length_cons, List.getElem?_cons_succ]
      refine asc_pos h2 ?_
      rcases List.mem_cons.mp h with rfl | h
      · omega
      · exact h
    · have hx : x = y := by
        rcases List.mem_cons.mp h with e | h
        · exact e
        · have := h1 x h; omega
      subst hx
      have : ((x :: left).filter fun y => decide (y < x)) = [] := by
        rw [List.filter_eq_nil_iff]
        intro z hz
        rcases List.mem_cons.mp hz with rfl | hz
        · simp
        · have := h1 z hz; simp; omega
      rw [this]; rfl
theorem asc_count : ∀ {left : List Int} {r : Nat}, left.Pairwise (· < ·) → r < left.length → ((left.eraseIdx r).filter fun y => decide (y < left.getD r 0)).length = r
  | [], _, _, h => by simp at h
  | y :: left, 0, hp, _ => by
    have ⟨h1, _⟩ := List.pairwise_cons.mp hp
    simp only [List.eraseIdx_cons_zero, List.getD_cons_zero, List.length_eq_zero_iff, List.filter_eq_nil_iff]
    intro z hz; have := h1 z hz; simp; omega
  | y :: left, r + 1, hp, h => by
    have ⟨h1, h2⟩ := List.pairwise_cons.mp hp
    have hr : r < left.length := by simpa using h
    have := h1 _ (getD_mem hr)
    simp only [List.eraseIdx_cons_succ, List.getD_cons_succ, List.filter_cons, decide_eq_true this, if_true, List.length_cons, asc_count h2 hr]
theorem dec_code : ∀ (l left : List Int), l.Nodup → left.Pairwise (· < ·) → left.Perm l → decM left (codeM l) = l ∧ RowOk left.length (codeM l)
  | [], left, _, _, p => by
    have := p.length_eq
    exact ⟨by simp [codeM, decM], by simpa [codeM, RowOk] using this⟩
  | x :: l, left, nd, hs, p => by
    have hx : x ∈ left := p.mem_iff.mpr (by simp)
    have hc : (left.filter fun y => decide (y < x)).length = (l.filter fun y => decide (y < x)).length := by
      rw [(p.filter _).length_eq, List.filter_cons, if_neg (by simp)]
    have hp := asc_pos hs hx
    rw [hc] at hp
    generalize hk : (l.filter fun y => decide (y < x)).length = k at hp
    have hk1 : k < left.length := by
      obtain ⟨q, _⟩ := List.getElem?_eq_some_iff.mp hp; exact q
    have hg : left.getD k 0 = x := by rw [List.getD_eq_getElem?_getD, hp]; rfl
    have p2 : (left.eraseIdx k).Perm l := by
      have := (perm_eraseIdx hk1).trans p
      rw [hg] at this
      exact this.cons_inv
    obtain ⟨e1, e2⟩ := dec_code l (left.eraseIdx k) (List.nodup_cons.mp nd).2 (hs.sublist (List.eraseIdx_sublist _ _)) p2
    rw [codeM_cons, hk]
    refine ⟨by rw [decM, Int.toNat_natCast, hg, e1], by omega, by omega, ?_⟩
    rw [List.length_eraseIdx, if_pos hk1] at e2
    exact e2
theorem decM_perm : ∀ (row left : List Int), RowOk left.length row → (decM left row).Perm left
  | [], left, h => by
    have : left = [] := List.length_eq_zero_iff.mp h
    subst this; exact List.Perm.refl _
  | r :: rs, left, ⟨h0, h1, h2⟩ => by
    have hr : r.toNat < left.length := by omega
    have hl : (left.eraseIdx r.toNat).length = left.length - 1 := by rw [List.length_eraseIdx, if_pos hr]
    have := decM_perm rs (left.eraseIdx r.toNat) (by rw [hl]; exact h2)
    exact (this.cons _).trans (perm_eraseIdx hr)
theorem code_dec : ∀ (row left : List Int), left.Pairwise (· < ·) → RowOk left.length row → codeM (decM left row) = row
  | [], left, _, _ => rfl
  | r :: rs, left, hs, ⟨h0, h1, h2⟩ => by
    have hr : r.toNat < left.length := by omega
    have hl : (left.eraseIdx r.toNat).length = left.length - 1 := by rw [List.length_eraseIdx, if_pos hr]
    have h3 : RowOk (left.eraseIdx r.toNat).length rs := by rw [hl]; exact h2
    have ih := code_dec rs (left.eraseIdx r.toNat) (hs.sublist (List.eraseIdx_sublist _ _)) h3
    rw [decM, codeM_cons, ih, ((decM_perm rs _ h3).filter _).length_eq, asc_count hs hr]
    congr 1; omega
theorem upTo_asc (n : Nat) : (upTo n).Pairwise (· < ·) := by
  unfold upTo
  rw [List.pairwise_map]
  exact (List.pairwise_lt_range (n := n)).imp fun h => by omega
/-- drawn numbers that are a code -/
theorem drawn_wp {n : Nat} : ∀ (m : Nat) (s : St) (k : Nat), GoodSt s → k + m = n → Wp (R.mapS (fun at_ s => Pl.u_law_next s ((n : Int) - at_)) ((List.range' k m).map fun (i : Nat) => (i : Int)) s) fun r => RowOk m r.1 ∧ r.1.length = m ∧ GoodSt r.2
  | 0, s, k, g, _ => ⟨_, rfl, rfl, rfl, g⟩
  | m + 1, s, k, g, h => by
    obtain ⟨⟨r, s1⟩, e, r0, r1, g1⟩ := next_wp (top := (n : Int) - (k : Int)) g (by omega)
    obtain ⟨⟨rs, s2⟩, e2, h2, h3, g2⟩ := drawn_wp (n := n) m s1 (k + 1) g1 (by omega)
    refine ⟨(r :: rs, s2), ?_, ⟨r0, by simp only at r1; omega, h2⟩, by simp only at h3; simp [h3], g2⟩
    rw [List.range'_succ, List.map_cons, R.mapS]
    simp only [e, e2]
/-! ### rings -/
theorem whl_wp {σ : Type} {c : σ → R Bool} {f : σ → R σ} (I : σ → Prop) (mea : σ → Nat) (h : ∀ s, I s → ∃ b, c s = .ok b ∧ (b = true → Wp (f s) fun s' => I s' ∧ mea s' < mea s)) : ∀ (n : Nat) (s : σ), I s → mea s < n → Wp (R.whl c f n s) fun s' => I s' ∧ c s' = .ok false
  | 0, s, _, hm => by omega
  | n + 1, s, i, hm => by
    obtain ⟨b, hb, g⟩ := h s i
    unfold R.whl
    rw [bindR hb]
    cases b with
    | false => exact Wp.ok ⟨i, hb⟩
    | true => exact Wp.bind (g rfl) fun s' ⟨i', hm'⟩ => whl_wp I mea h n s' i' (by omega)
def ap (o : List Int) (v : Int) : Int := o.getD (v - 1).toNat 0
/-- round the ring -/
def Clo (o : List Int) (r : List Int) : Prop := ∀ p ∈ r.zip (r.drop 1 ++ r.take 1), ap o p.1 = p.2
theorem Clo.step {o r a b : List Int} {x y : Int} (h : Clo o r) (e : r = a ++ x :: y :: b) : ap o x = y := by
  refine h (x, y) ?_
  rw [List.mem_iff_getElem]
  subst e
  refine ⟨a.length, by simp; omega, ?_⟩
  rw [List.getElem_zip]
  congr 1
  · simp
  · rw [List.getElem_append_left (by simp), List.getElem_drop]; simp [List.getElem_append]
theorem Clo.last {o r a t : List Int} {x v : Int} (h : Clo o r) (e : r = a ++ [x]) (e2 : r = v :: t) : ap o x = v := by
  refine h (x, v) ?_
  rw [List.mem_iff_getElem]
  have hl : a.length + 1 = t.length + 1 := by
    have := congrArg List.length e; rw [e2] at this; simpa using this.symm
  refine ⟨a.length, by rw [e]; simp, ?_⟩
  rw [List.getElem_zip]
  congr 1
  · subst e; simp
  · subst e2
    rw [List.getElem_append_right (by simp; omega)]; simp
theorem Clo.mk {o : List Int} {v : Int} {t : List Int} (h1 : ∀ a x y b, v :: t = a ++ x :: y :: b → ap o x = y) (h2 : ∀ a x, v :: t = a ++ [x] → ap o x = v) : Clo o (v :: t) := by
  intro p hp
  obtain ⟨i, hi, e⟩ := List.mem_iff_getElem.mp hp
  rw [List.getElem_zip] at e
  simp at hi
  subst e
  simp only
  by_cases c : i + 1 < (v :: t).length
  · rw [List.getElem_append_left (by simp at c ⊢; omega), List.getElem_drop]
    have : (v :: t) = (v :: t).take i ++ (v :: t)[i] :: (v :: t)[i + 1]'c :: (v :: t).drop (i + 2) := by
      have e1 := List.drop_eq_getElem_cons (l := v :: t) (i := i) (by omega)
      have e2 := List.drop_eq_getElem_cons (l := v :: t) (i := i + 1) c
      conv => lhs; rw [← List.take_append_drop i (v :: t), e1, e2]
    have := h1 _ _ _ _ this
    simpa [Nat.add_comm] using this
  · have hi' : i = t.length := by simp at c; omega
    rw [List.getElem_append_right (by simp; omega)]
    have : (v :: t) = (v :: t).take i ++ [(v :: t)[i]'(by simp; omega)] := by
      have e1 := List.drop_eq_getElem_cons (l := v :: t) (i := i) (by simp; omega)
      conv => lhs; rw [← List.take_append_drop i (v :: t), e1, List.drop_eq_nil_of_le (by simp; omega)]
    have := h2 _ _ this
    simpa using this
theorem ap_inj {o : List Int} (h : IsOrd o) {x y : Int} (hx : 1 ≤ x ∧ x ≤ o.length) (hy : 1 ≤ y ∧ y ≤ o.length) (e : ap o x = ap o y) : x = y := by
  unfold ap at e
  rw [getD_eq (by omega), getD_eq (by omega)] at e
  have := (List.getElem_inj (i := (x - 1).toNat) (j := (y - 1).toNat) (h₀ := by omega) (h₁ := by omega) h.1).mp e
  omega
theorem ap_rng {o : List Int} (h : IsOrd o) {x : Int} (hx : 1 ≤ x ∧ x ≤ o.length) : 1 ≤ ap o x ∧ ap o x ≤ o.length := h.2 _ (getD_mem (by omega))
/-- there is a ring through each thing -/
theorem ring_ex {o : List Int} (h : IsOrd o) {v : Int} (hv : 1 ≤ v ∧ v ≤ o.length) : ∃ t, Clo o (v :: t) ∧ (v :: t).Nodup ∧ ∀ x ∈ v :: t, 1 ≤ x ∧ x ≤ o.length := by
  have key : ∀ k, (∃ t, Clo o (v :: t) ∧ (v :: t).Nodup ∧ ∀ x ∈ v :: t, 1 ≤ x ∧ x ≤ o.length) ∨ ∃ t, t.length = k ∧ (v :: t).Nodup ∧ (∀ x ∈ v :: t, 1 ≤ x ∧ x ≤ o.length) ∧ ∀ a x y b, v :: t = a ++ x :: y :: b → ap o x = y := by
    intro k
    induction k with
    | zero =>
      refine .inr ⟨[], rfl, by simp, by simpa using hv, fun a x y b e => ?_⟩
      have := congrArg List.length e; simp at this; omega
    | succ k ih =>
      rcases ih with ih | ⟨t, hl, nd, hr, hs⟩
      · exact .inl ih
      obtain ⟨a, z, ez⟩ : ∃ a z, v :: t = a ++ [z] := by
        rcases List.eq_nil_or_concat (v :: t) with e | ⟨a, z, e⟩
        · cases e
        · exact ⟨a, z, by simpa using e⟩
      have hz := hr z (by rw [ez]; simp)
      by_cases c : ap o z = v
      · refine .inl ⟨t, Clo.mk hs fun a' x e => ?_, nd, hr⟩
        rw [ez] at e
        have := (List.append_inj' e rfl).2
        simp at this; subst this; exact c
      · have hn : ap o z ∉ v :: t := by
          intro hm
          obtain ⟨p, q, e⟩ := List.append_of_mem hm
          rcases List.eq_nil_or_concat p with rfl | ⟨p', w, rfl⟩
          · simp at e; exact c e.1.symm
          · have hw := hs p' w (ap o z) q (by rw [e]; simp)
            have hwr := hr w (by rw [e]; simp)
            have e3 := ap_inj h hwr hz hw
            subst e3
            have nd' := nd
            rw [ez] at nd'
            have e4 : p' ++ w :: ap o w :: q = a ++ [w] := by rw [← ez, e]; simp
            have hin : w ∈ a := by
              have := congrArg List.dropLast e4
              rw [List.dropLast_concat] at this
              rw [← this, List.dropLast_append_of_ne_nil (by simp)]; simp
            exact (List.nodup_append.mp nd').2.2 w hin w (by simp) rfl
        refine .inr ⟨t ++ [ap o z], by simp [hl], ?_, ?_, ?_⟩
        · rw [← List.cons_append]
          exact List.nodup_append.mpr ⟨nd, by simp, fun x hx y hy e => by simp at hy; subst hy; subst e; exact hn hx⟩
        · intro x hx
          rw [← List.cons_append] at hx
          rcases List.mem_append.mp hx with hx | hx
          · exact hr x hx
          · simp at hx; subst hx; exact ap_rng h hz
        · intro a' x y b e
          rw [← List.cons_append] at e
          rcases List.eq_nil_or_concat b with rfl | ⟨b', w, rfl⟩
          · have e5 : (v :: t) ++ [ap o z] = (a' ++ [x]) ++ [y] := by rw [e]; simp
            have ⟨e6, e7⟩ := List.append_inj' e5 rfl
            simp at e7
            rw [ez] at e6
            have := (List.append_inj' e6 rfl).2
            simp at this; subst this; exact e7
          · have e5 : (v :: t) ++ [ap o z] = (a' ++ x :: y :: b') ++ [w] := by rw [e]; simp
            exact hs a' x y b' (List.append_inj' e5 rfl).1
  rcases key o.length with h1 | ⟨t, hl, nd, hr, _⟩
  · exact h1
  · have := nodup_len (v :: t) (upTo o.length) nd fun x hx => mem_upTo.mpr (hr x hx)
    rw [upTo_len, List.length_cons] at this; omega
/-- the rings of an order, each from its greatest thing on, by ascending greatest ones -/
structure Sg (L : List (List Int)) : Prop where
  hd : ∀ r ∈ L, ∃ v t, r = v :: t ∧ ∀ x ∈ t, x < v
  asc : L.Pairwise fun r s => r.headD 0 < s.headD 0
structure Rg (o : List Int) (L : List (List Int)) : Prop extends Sg L where
  perm : L.flatten.Perm (upTo o.length)
  clo : ∀ r ∈ L, Clo o r
theorem rg_ex {o : List Int} (h : IsOrd o) : ∃ L, Rg o L := by
  have key : ∀ k : Nat, k ≤ o.length → ∃ L, Sg L ∧ L.flatten.Nodup ∧ (∀ x ∈ L.flatten, 1 ≤ x ∧ x ≤ o.length) ∧ (∀ r ∈ L, Clo o r) ∧ (∀ r ∈ L, (o.length : Int) - k < r.headD 0) ∧ ∀ x : Int, (o.length : Int) - k < x → x ≤ o.length → x ∈ L.flatten := by
    intro k
    induction k with
    | zero => exact fun _ => ⟨[], ⟨fun _ h => (nomatch h), List.Pairwise.nil⟩, by simp, by simp, fun _ h => (nomatch h), fun _ h => (nomatch h), fun x h1 h2 => by omega⟩
    | succ k ih =>
      intro hk
      obtain ⟨L, sg, nd, hr, hc, hh, hx⟩ := ih (by omega)
      generalize hv : (o.length : Int) - k = v at hh hx
      have hv1 : (1 : Int) ≤ v := by omega
      have hvn : v ≤ o.length := by omega
      by_cases c : v ∈ L.flatten
      · exact ⟨L, sg, nd, hr, hc, fun r hr' => by have := hh r hr'; omega, fun x h1 h2 => by
          by_cases e : x = v
          · subst e; exact c
          · exact hx x (by omega) h2⟩
      obtain ⟨t, cl, ndt, hrt⟩ := ring_ex h ⟨hv1, hvn⟩
      have fwd : ∀ x ∈ L.flatten, ap o x ∈ L.flatten := by
        intro x hx'
        obtain ⟨r, hr', hxr⟩ := List.mem_flatten.mp hx'
        refine List.mem_flatten.mpr ⟨r, hr', ?_⟩
        obtain ⟨w, t', e, _⟩ := sg.hd r hr'
        obtain ⟨a, b, e2⟩ := List.append_of_mem hxr
        cases b with
        | nil => rw [(hc r hr').last e2 e, e]; simp
        | cons y b => rw [(hc r hr').step e2, e2]; simp
      have disj : ∀ x ∈ v :: t, x ∉ L.flatten := by
        have walk : ∀ (b a : List Int) (x : Int), v :: t = a ++ x :: b → x ∈ L.flatten → v ∈ L.flatten := by
          intro b
          induction b with
          | nil => intro a x e hx'; have := fwd x hx'; rwa [cl.last e rfl] at this
          | cons y b ih =>
            intro a x e hx'
            have := fwd x hx'
            rw [cl.step e] at this
            exact ih (a ++ [x]) y (by rw [e]; simp) this
        intro x hx' hf
        obtain ⟨a, b, e⟩ := List.append_of_mem hx'
        exact c (walk b a x e hf)
      have hlt : ∀ x ∈ t, x < v := by
        intro x hxt
        have h1 := hrt x (by simp [hxt])
        have h2 := disj x (by simp [hxt])
        have h3 : x ≠ v := fun e => (List.nodup_cons.mp ndt).1 (e ▸ hxt)
        by_cases c2 : v < x
        · exact absurd (hx x c2 h1.2) h2
        · omega
      refine ⟨(v :: t) :: L, ⟨?_, List.pairwise_cons.mpr ⟨fun r hr' => hh r hr', sg.asc⟩⟩, ?_, ?_, ?_, ?_, ?_⟩
      · intro r hr'
        rcases List.mem_cons.mp hr' with rfl | hr'
        · exact ⟨v, t, rfl, hlt⟩
        · exact sg.hd r hr'
      · rw [List.flatten_cons]
        exact List.nodup_append.mpr ⟨ndt, nd, fun x hx' y hy e => disj x hx' (e ▸ hy)⟩
      · intro x hx'
        rw [List.flatten_cons] at hx'
        rcases List.mem_append.mp hx' with hx' | hx'
        · exact hrt x hx'
        · exact hr x hx'
      · intro r hr'
        rcases List.mem_cons.mp hr' with rfl | hr'
        · exact cl
        · exact hc r hr'
      · intro r hr'
        rcases List.mem_cons.mp hr' with rfl | hr'
        · show _ < v; omega
        · have := hh r hr'; omega
      · intro x h1 h2
        rw [List.flatten_cons]
        by_cases e : x = v
        · subst e; simp
        · exact List.mem_append.mpr (.inr (hx x (by omega) h2))
  obtain ⟨L, sg, nd, hr, hc, _, hx⟩ := key o.length (Nat.le_refl _)
  refine ⟨L, sg, ?_, hc⟩
  refine (List.perm_ext_iff_of_nodup nd (upTo_nodup _)).mpr fun x => ?_
  rw [mem_upTo]
  exact ⟨hr x, fun h1 => hx x (by omega) h1.2⟩
/-! ### rings: what the functions tell -/
theorem Rg.bnd {o : List Int} {L : List (List Int)} (h : Rg o L) : ∀ r ∈ L, ∀ x ∈ r, 1 ≤ x ∧ x ≤ o.length := fun r hr x hx => mem_upTo.mp (h.perm.mem_iff.mp (List.mem_flatten.mpr ⟨r, hr, hx⟩))
theorem Rg.nd {o : List Int} {L : List (List Int)} (h : Rg o L) : L.flatten.Nodup := h.perm.nodup_iff.mpr (upTo_nodup _)
theorem ap_ix {o : List Int} {x : Int} (hx : 1 ≤ x ∧ x ≤ o.length) : R.ix o (x - 1) = .ok (ap o x) := ixI_ok (by omega) (by omega)
/-- where the walk from the greatest thing down stands -/
structure At (o : List Int) (L P S : List (List Int)) (v : Int) : Prop where
  eq : L = P ++ S
  p : ∀ r ∈ P, r.headD 0 ≤ v
  s : ∀ r ∈ S, v < r.headD 0
theorem At.in {o : List Int} {L P S : List (List Int)} {v : Int} (hL : Rg o L) (h : At o L P S v) (c : v ∈ S.flatten) : At o L P S (v - 1) := ⟨h.eq, fun r hr => by
    have h1 := h.p r hr
    have : r.headD 0 ≠ v := fun e => by
      obtain ⟨w, t, rfl, _⟩ := hL.hd r (by rw [h.eq]; simp [hr])
      have nd := hL.nd
      rw [h.eq, List.flatten_append] at nd
      refine (List.nodup_append.mp nd).2.2 w (List.mem_flatten.mpr ⟨_, hr, by simp⟩) v c ?_
      simpa using e
    omega, fun r hr => by have := h.s r hr; omega⟩
theorem At.out {o : List Int} {L P S : List (List Int)} {v : Int} (hL : Rg o L) (h : At o L P S v) (hv : 1 ≤ v ∧ v ≤ o.length) (c : v ∉ S.flatten) : ∃ P' t, P = P' ++ [v :: t] ∧ At o L P' ((v :: t) :: S) (v - 1) ∧ (v :: t).Nodup ∧ (∀ x ∈ v :: t, x ∉ S.flatten) ∧ Clo o (v :: t) ∧ ∀ x ∈ v :: t, 1 ≤ x ∧ x ≤ o.length := by
  have hm : v ∈ L.flatten := hL.perm.mem_iff.mpr (mem_upTo.mpr hv)
  rw [h.eq, List.flatten_append] at hm
  have hm : v ∈ P.flatten := (List.mem_append.mp hm).resolve_right c
  obtain ⟨r, hr, hvr⟩ := List.mem_flatten.mp hm
  obtain ⟨w, t, rfl, ht⟩ := hL.hd r (by rw [h.eq]; simp [hr])
  have hw := h.p _ hr
  have e : w = v := by
    rcases List.mem_cons.mp hvr with e | hx
    · exact e.symm
    · have := ht v hx; simp at hw; omega
  subst e
  obtain ⟨P', Q, rfl⟩ := List.append_of_mem hr
  have asc := hL.asc
  rw [h.eq] at asc
  have a1 := (List.pairwise_append.mp (List.pairwise_append.mp asc).1)
  have a2 := List.pairwise_cons.mp a1.2.1
  have hQ : Q = [] := by
    cases Q with
    | nil => rfl
    | cons q Q =>
      have := a2.1 q (by simp)
      have := h.p q (by simp)
      simp at *; omega
  subst hQ
  have nd := hL.nd
  rw [h.eq, List.flatten_append, List.flatten_append] at nd
  simp only [List.flatten_cons, List.flatten_nil, List.append_nil] at nd
  have nd1 := List.nodup_append.mp nd
  refine ⟨P', t, rfl, ⟨by rw [h.eq]; simp, fun r hr => ?_, fun r hr => ?_⟩, (List.nodup_append.mp nd1.1).2.1, fun x hx hS => ?_, hL.clo _ (by rw [h.eq]; simp), hL.bnd _ (by rw [h.eq]; simp)⟩
  · have : r.headD 0 < w := a1.2.2 r hr (w :: t) (by simp)
    omega
  · rcases List.mem_cons.mp hr with rfl | hr
    · simp; omega
    · have := h.s r hr; omega
  · exact nd1.2.2 x (List.mem_append.mpr (.inr hx)) x hS rfl
theorem At.start {o : List Int} {L : List (List Int)} (hL : Rg o L) : At o L L [] o.length := ⟨by simp, fun r hr => by
  obtain ⟨w, t, rfl, _⟩ := hL.hd r hr
  exact (hL.bnd _ hr w (by simp)).2, fun r hr => nomatch hr⟩
theorem At.end {o : List Int} {L P S : List (List Int)} (hL : Rg o L) (h : At o L P S 0) : S = L := by
  cases P with
  | nil => simpa using h.eq.symm
  | cons r P =>
    obtain ⟨w, t, rfl, _⟩ := hL.hd r (by rw [h.eq]; simp)
    have := h.p (w :: t) (by simp)
    have := hL.bnd (w :: t) (by rw [h.eq]; simp) w (by simp)
    simp at *; omega
theorem Rg.small {o : List Int} {L : List (List Int)} (h : Rg o L) : L.flatten.length = o.length := by rw [h.perm.length_eq, upTo_len]
theorem len_flat : ∀ L : List (List Int), (∀ r ∈ L, r ≠ []) → L.length ≤ L.flatten.length
  | [], _ => Nat.le_refl _
  | r :: L, h => by
    have := len_flat L fun s hs => h s (by simp [hs])
    have := List.length_pos_iff.mpr (h r (by simp))
    simp only [List.length_cons, List.flatten_cons, List.length_append]; omega
theorem Rg.count {o : List Int} {L : List (List Int)} (h : Rg o L) : L.length ≤ o.length := by
  rw [← h.small]
  exact len_flat L fun r hr => by obtain ⟨w, t, rfl, _⟩ := h.hd r hr; simp
theorem lrings_eq {o : List Int} {L : List (List Int)} (hL : Rg o L) (hn : o.length ≤ 1000) : Pl.u_law_rings o = .ok L := by
  apply Wp.get
  unfold Pl.u_law_rings
  rw [bindR rfl, bindR rfl, bindR rfl]
  simp only
  rw [rngDn_ok (by omega) (by omega) (by decide) (by decide), bindR rfl]
  refine Wp.bind (for_rngD (fun v (z : List (List Int) × List Int) => ∃ P, At o L P z.1 v ∧ (∀ x, x ∈ z.2 ↔ x ∈ z.1.flatten) ∧ z.2.length = z.1.flatten.length) (by omega) ⟨L, At.start hL, by simp, by simp⟩ ?_) ?_
  · rintro v ⟨S, met⟩ hv0 hvn ⟨P, hA, hm, hml⟩
    simp only at hA hm hml ⊢
    have hSlen : S.flatten.length ≤ o.length := by
      rw [← hL.small, hA.eq, List.flatten_append, List.length_append]; omega
    have hSc : S.length ≤ o.length := by
      have := hL.count
      rw [hA.eq, List.length_append] at this; omega
    rw [bindR rfl, rng_ok (by decide) (by decide) (by omega) (by omega), bindR rfl]
    by_cases c : v ∈ S.flatten
    · refine Wp.bind (P := fun z : List Int × Int × List Int => z = (met, v, [])) ?_ ?_
      · have := for_rng (f := fun turn (x : List Int × Int × List Int) => match x with
          | (met, value, ring) => if (!decide (value ∈ met)) = true then (R.app met value).bind fun met => (R.app ring value).bind fun ring => (R.ix o (value - 1)).bind fun value => R.ok (met, value, ring) else R.ok (met, value, ring)) (lo := 0) (hi := (o.length : Int)) (fun _ (z : List Int × Int × List Int) => z = (met, v, [])) (by omega) rfl (by
            rintro i _ _ _ rfl
            simp only
            rw [if_neg (by simp [(hm v).mpr c])]
            exact Wp.ok rfl)
        exact this
      · rintro _ rfl
        simp only
        rw [if_neg (by simp)]
        exact Wp.ok ⟨P, hA.in hL c, hm, hml⟩
    · obtain ⟨P', t, rfl, hA', nd, dj, cl, bd⟩ := hA.out hL ⟨by omega, hvn⟩ c
      have hrl : (v :: t).length ≤ o.length := by
        have := nodup_len (v :: t) (upTo o.length) nd fun x hx => mem_upTo.mpr (bd x hx)
        rwa [upTo_len] at this
      refine Wp.bind (P := fun z : List Int × Int × List Int => z.2.2 = v :: t ∧ z.1 = met ++ (v :: t)) ?_ ?_
      · have := for_rng (f := fun turn (x : List Int × Int × List Int) => match x with
          | (met, value, ring) => if (!decide (value ∈ met)) = true then (R.app met value).bind fun met => (R.app ring value).bind fun ring => (R.ix o (value - 1)).bind fun value => R.ok (met, value, ring) else R.ok (met, value, ring)) (lo := 0) (hi := (o.length : Int)) (fun i (z : List Int × Int × List Int) => ∃ b, v :: t = z.2.2 ++ b ∧ z.1 = met ++ z.2.2 ∧ z.2.1 = b.headD v ∧ ((i : Int) ≤ z.2.2.length ∨ b = [])) (s := (met, v, [])) (by omega) ⟨v :: t, rfl, by simp, rfl, .inl (by simp)⟩ (by
            rintro i ⟨me, va, ri⟩ i0 i1 ⟨b, e1, e2, e3, e4⟩
            simp only at e1 e2 e3 e4 ⊢
            subst e2 e3
            have hlen := congrArg List.length e1
            simp only [List.length_cons, List.length_append] at hlen
            cases b with
            | nil =>
              have hri : ri = v :: t := by simpa using e1.symm
              rw [if_neg (by rw [hri]; simp)]
              exact Wp.ok ⟨[], e1, rfl, rfl, .inr rfl⟩
            | cons y b =>
              have hy : y ∈ v :: t := by rw [e1]; simp
              have hny : y ∉ met ++ ri := by
                intro h
                rcases List.mem_append.mp h with h | h
                · exact dj y hy ((hm y).mp h)
                · rw [e1] at nd
                  exact (List.nodup_append.mp nd).2.2 y h y (by simp) rfl
              rw [show (y :: b).headD v = y from rfl, if_pos (by simp at hny; simp [hny])]
              simp only [List.length_cons] at hlen hrl
              rw [app_ok (by simp; omega), bindR rfl, app_ok (by omega), bindR rfl, ap_ix (bd y hy), bindR rfl]
              refine Wp.ok ⟨b, by simp [e1], by simp, ?_, .inl (by simp only [List.length_append, List.length_cons, List.length_nil]; have := e4.resolve_right (by simp); omega)⟩
              simp only
              cases b with
              | nil => exact cl.last e1 rfl
              | cons z b => exact cl.step e1)
        refine this.wk ?_
        rintro ⟨me, va, ri⟩ ⟨b, e1, e2, e3, e4⟩
        simp only at e1 e2 e3 e4 ⊢
        have hb : b = [] := by
          rcases e4 with e4 | e4
          · have hlen := congrArg List.length e1
            simp only [List.length_append] at hlen
            exact List.length_eq_zero_iff.mp (by omega)
          · exact e4
        subst hb
        have : ri = v :: t := by simpa using e1.symm
        exact ⟨this, by rw [e2, this]⟩
      · rintro ⟨me, va, ri⟩ ⟨e1, e2⟩
        simp only at e1 e2 ⊢
        subst e1 e2
        rw [if_pos (by simp), bindR rfl, bindR rfl, sz_ok (by simp; omega), bindR rfl]
        refine Wp.ok ⟨P', hA', fun x => ?_, ?_⟩
        · show x ∈ met ++ (v :: t) ↔ x ∈ (v :: t) ++ S.flatten
          simp only [List.mem_append, hm x]
          exact or_comm
        · show (met ++ (v :: t)).length = ((v :: t) ++ S.flatten).length
          simp only [List.length_append, hml]; omega
  · rintro ⟨S, met⟩ ⟨P, hA, _, _⟩
    exact Wp.ok (hA.end hL)
theorem getK_app {κ α : Type} [DecidableEq κ] : ∀ (l : List (κ × α)) (k x : κ) (v : α), (getK (l ++ [(k, v)]) x).isSome = ((getK l x).isSome || decide (k = x)) := by
  intro l k x v
  simp only [getK, List.find?_append, Option.isSome_map, Option.isSome_or]
  congr 1
  by_cases c : k = x <;> simp [c]
theorem setK_new {κ α : Type} [DecidableEq κ] {l : List (κ × α)} {k : κ} {v : α} (h : (getK l k).isSome = false) : setK l k v = l ++ [(k, v)] := by
  unfold setK
  rw [if_neg]
  unfold getK at h
  simp only [Option.isSome_map, Option.isSome_eq_false_iff, Option.isNone_iff_eq_none, List.find?_eq_none] at h
  simp only [List.any_eq_true, not_exists, not_and]
  exact h
theorem flat_run {L : List (List Int)} (h : L.flatten.length ≤ 1000) : R.for_ (fun ring found => (R.sz (found ++ ring)).bind fun found => R.ok found) L ([] : List Int) = .ok L.flatten := by
  apply Wp.get
  refine (for_pre (fun p (z : List Int) => z = p.flatten) rfl ?_).wk fun a h => h
  rintro p x q s e rfl
  rw [e] at h
  simp at h
  rw [sz_ok (by simp; omega), bindR rfl]
  exact Wp.ok (by simp)
theorem rlows_eq {o : List Int} {L : List (List Int)} (hL : Rg o L) (hn : o.length ≤ 50) : Pl.rings_as_lows o = .ok L.flatten := by
  apply Wp.get
  unfold Pl.rings_as_lows
  rw [bindR rfl, bindR rfl, bindR rfl]
  rw [rngDn_ok (by omega) (by omega) (by decide) (by decide), bindR rfl]
  refine Wp.bind (for_rngD (fun v (z : List (Int × Bool) × List (List Int)) => ∃ P, At o L P z.2 v ∧ (∀ x, (getK z.1 x).isSome = decide (x ∈ z.2.flatten)) ∧ z.1.length = z.2.flatten.length) (by omega) ⟨L, At.start hL, by simp [getK], by simp⟩ ?_) ?_
  · rintro v ⟨seen, S⟩ hv0 hvn ⟨P, hA, hm, hml⟩
    simp only at hA hm hml ⊢
    have hSlen : S.flatten.length ≤ o.length := by
      rw [← hL.small, hA.eq, List.flatten_append, List.length_append]; omega
    have hSc : S.length ≤ o.length := by
      have := hL.count
      rw [hA.eq, List.length_append] at this; omega
    rw [hm v]
    by_cases c : v ∈ S.flatten
    · rw [if_neg (by simp [c])]
      exact Wp.ok ⟨P, hA.in hL c, hm, hml⟩
    · rw [if_pos (by simp [c]), bindR rfl]
      obtain ⟨P', t, rfl, hA', nd, dj, cl, bd⟩ := hA.out hL ⟨by omega, hvn⟩ c
      have hrl : (v :: t).length ≤ o.length := by
        have := nodup_len (v :: t) (upTo o.length) nd fun x hx => mem_upTo.mpr (bd x hx)
        rwa [upTo_len] at this
      refine Wp.bind (P := fun z : List Int => z = v :: t) ?_ ?_
      · refine (whl_wp (fun z : List Int => z ≠ [] ∧ ∃ b, v :: t = z ++ b) (fun z => o.length - z.length) ?_ 100 [v] ⟨by simp, t, rfl⟩ (by omega)).wk ?_
        · rintro z ⟨hz, b, e⟩
          obtain ⟨a, x, rfl⟩ : ∃ a x, z = a ++ [x] := by
            rcases List.eq_nil_or_concat z with e | ⟨a, x, e⟩
            · exact absurd e hz
            · exact ⟨a, x, by simpa using e⟩
          have hx : x ∈ v :: t := by rw [e]; simp
          rw [ix_last, bindR rfl, bindR rfl, ap_ix (bd x hx), bindR rfl]
          refine ⟨_, rfl, fun hne => ?_⟩
          have hlen := congrArg List.length e
          simp only [List.length_cons, List.length_append, List.length_nil] at hlen hrl
          rw [bindR rfl, app_ok (by simp; omega), bindR rfl]
          cases b with
          | nil =>
            have := cl.last (by simpa using e) rfl
            simp [this] at hne
          | cons y b =>
            have := cl.step (a := a) (x := x) (y := y) (b := b) (by rw [e]; simp)
            refine Wp.ok ⟨⟨by simp, b, by rw [e, this]; simp⟩, ?_⟩
            simp only [List.length_append, List.length_cons, List.length_nil] at hlen ⊢; omega
        · rintro z ⟨⟨hz, b, e⟩, hc⟩
          cases b with
          | nil => simpa using e.symm
          | cons y b =>
            exfalso
            obtain ⟨a, x, rfl⟩ : ∃ a x, z = a ++ [x] := by
              rcases List.eq_nil_or_concat z with e | ⟨a, x, e⟩
              · exact absurd e hz
              · exact ⟨a, x, by simpa using e⟩
            have hx : x ∈ v :: t := by rw [e]; simp
            have hs := cl.step (a := a) (x := x) (y := y) (b := b) (by rw [e]; simp)
            rw [ix_last, bindR rfl, bindR rfl, ap_ix (bd x hx), bindR rfl, hs] at hc
            simp only [R.ok.injEq, Bool.not_eq_false', decide_eq_true_eq] at hc
            subst hc
            have nd' := nd
            rw [e] at nd'
            cases a with
            | nil => simp at e; obtain ⟨rfl, rfl⟩ := e; simp at nd'
            | cons w a => simp at e; obtain ⟨rfl, rfl⟩ := e; simp at nd'
      · rintro _ rfl
        rw [bindR rfl]
        refine Wp.bind (for_pre (fun p (z : List (Int × Bool)) => (∀ x, (getK z x).isSome = (decide (x ∈ S.flatten) || decide (x ∈ p))) ∧ z.length = S.flatten.length + p.length) ⟨by simpa using hm, by simpa using hml⟩ ?_) ?_
        · rintro p x q z e ⟨h1, h2⟩
          have hxr : x ∈ v :: t := by rw [e]; simp
          have hnew : (getK z x).isSome = false := by
            rw [h1, decide_eq_false (dj x hxr)]
            rw [e] at nd
            have : x ∉ p := fun h => (List.nodup_append.mp nd).2.2 x h x (by simp) rfl
            simp [this]
          have hpl := congrArg List.length e
          simp only [List.length_append, List.length_cons] at hpl hrl
          rw [bindR rfl, bindR rfl]
          unfold R.put
          rw [if_pos (Nat.lt_of_le_of_lt (show z.length ≤ 1000 by omega) (by decide)), bindR rfl, setK_new hnew]
          refine Wp.ok ⟨fun y => ?_, by simp only [List.length_append, List.length_cons, List.length_nil]; omega⟩
          rw [getK_app, h1]
          by_cases c2 : x = y
          · subst c2; simp
          · have : y ≠ x := fun e => c2 e.symm
            simp [c2, this]
        · rintro z ⟨h1, h2⟩
          rw [bindR rfl, bindR rfl, sz_ok (by simp; omega), bindR rfl]
          refine Wp.ok ⟨P', hA', fun x => ?_, ?_⟩
          · simp only [List.cons_append, List.nil_append, List.flatten_cons, h1]
            by_cases c1 : x ∈ S.flatten <;> by_cases c2 : x ∈ v :: t <;> simp only [List.mem_append, List.mem_cons] at * <;> simp [*]
          · simp only [List.cons_append, List.nil_append, List.flatten_cons, List.length_append, List.length_cons] at h2 ⊢; omega
  · rintro ⟨seen, S⟩ ⟨P, hA, _, _⟩
    have := hA.end hL
    simp only at this ⊢
    subst this
    rw [bindR rfl, flat_run (by rw [hL.small]; omega), bindR rfl]
    exact Wp.ok rfl
/-! ### high ones and rings from them -/
theorem sg_ex : ∀ l : List Int, l.Nodup → ∃ L, Sg L ∧ L.flatten = l ∧ ∀ r ∈ L, ∀ h, (L.getLast?.map fun r => r.headD 0) = some h → r.headD 0 ≤ h := by
  intro l
  generalize hn : l.length = n
  induction n generalizing l with
  | zero =>
    intro _
    have : l = [] := List.length_eq_zero_iff.mp hn
    subst this
    exact ⟨[], ⟨fun _ h => (nomatch h), List.Pairwise.nil⟩, rfl, fun _ h => nomatch h⟩
  | succ n ih =>
    intro nd
    obtain ⟨a, x, rfl⟩ : ∃ a x, l = a ++ [x] := by
      rcases List.eq_nil_or_concat l with e | ⟨a, x, e⟩
      · subst e; simp at hn
      · exact ⟨a, x, by simpa using e⟩
    have nda := (List.nodup_append.mp nd)
    obtain ⟨L, sg, e, hl⟩ := ih a (by simpa using hn) nda.1
    rcases List.eq_nil_or_concat L with rfl | ⟨M, r, rfl⟩
    · simp at e; subst e
      refine ⟨[[x]], ⟨fun r hr => ⟨x, [], by simpa using hr, fun _ h => nomatch h⟩, by simp⟩, by simp, fun r hr h hh => ?_⟩
      simp at hr hh; subst hr; simp; omega
    · simp only [List.concat_eq_append] at *
      obtain ⟨w, t, rfl, ht⟩ := sg.hd r (by simp)
      have hlw : ∀ s ∈ M ++ [w :: t], s.headD 0 ≤ w := fun s hs => hl s hs w (by simp)
      have hxw : x ≠ w := fun q => nda.2.2 w (by rw [← e]; simp) x (by simp) q.symm
      by_cases c : w < x
      · refine ⟨M ++ [w :: t] ++ [[x]], ⟨fun s hs => ?_, ?_⟩, by simp [← e], fun s hs h hh => ?_⟩
        · rcases List.mem_append.mp hs with hs | hs
          · exact sg.hd s hs
          · exact ⟨x, [], by simpa using hs, fun _ h => nomatch h⟩
        · refine List.pairwise_append.mpr ⟨sg.asc, by simp, fun s hs u hu => ?_⟩
          simp at hu; subst hu
          have := hlw s hs
          show s.headD 0 < x; omega
        · simp at hh; subst hh
          rcases List.mem_append.mp hs with hs | hs
          · have := hlw s hs; omega
          · simp at hs; subst hs; simp
      · refine ⟨M ++ [w :: (t ++ [x])], ⟨fun s hs => ?_, ?_⟩, by simp [← e], fun s hs h hh => ?_⟩
        · rcases List.mem_append.mp hs with hs | hs
          · exact sg.hd s (by simp [hs])
          · refine ⟨w, t ++ [x], by simpa using hs, fun y hy => ?_⟩
            rcases List.mem_append.mp hy with hy | hy
            · exact ht y hy
            · simp at hy; omega
        · have a1 := List.pairwise_append.mp sg.asc
          exact List.pairwise_append.mpr ⟨a1.1, by simp, fun s hs u hu => by
            have := a1.2.2 s hs (w :: t) (by simp)
            simp at hu; subst hu; exact this⟩
        · simp at hh; subst hh
          rcases List.mem_append.mp hs with hs | hs
          · exact hlw s (by simp [hs])
          · simp at hs; subst hs; simp
/-- where the rings begin -/
def startsF : Nat → List (List Int) → List Nat
  | _, [] => []
  | a, r :: L => a :: startsF (a + r.length) L
theorem starts_len : ∀ (L : List (List Int)) (a : Nat), (startsF a L).length = L.length
  | [], _ => rfl
  | r :: L, a => by simp [startsF, starts_len L]
theorem starts_snoc : ∀ (L : List (List Int)) (r : List Int) (a : Nat), startsF a (L ++ [r]) = startsF a L ++ [a + L.flatten.length]
  | [], r, a => by simp [startsF]
  | s :: L, r, a => by simp [startsF, starts_snoc L r, Nat.add_assoc]
def highB (l : List Int) (i : Nat) : Bool := (l.take i).all fun one => decide (l.getD i 0 > one)
theorem high_filter {L : List (List Int)} (sg : Sg L) : (List.range L.flatten.length).filter (highB L.flatten) = startsF 0 L := by
  generalize hn : L.length = n
  induction n generalizing L with
  | zero =>
    have : L = [] := List.length_eq_zero_iff.mp hn
    subst this; rfl
  | succ n ih =>
    obtain ⟨M, r, rfl⟩ : ∃ M r, L = M ++ [r] := by
      rcases List.eq_nil_or_concat L with e | ⟨a, x, e⟩
      · subst e; simp at hn
      · exact ⟨a, x, by simpa using e⟩
    have asc := List.pairwise_append.mp sg.asc
    have sgM : Sg M := ⟨fun s hs => sg.hd s (by simp [hs]), asc.1⟩
    obtain ⟨w, t, rfl, ht⟩ := sg.hd r (by simp)
    have ihM := ih sgM (by simpa using hn)
    rw [starts_snoc, ← ihM, List.flatten_append, List.flatten_cons, List.flatten_nil, List.append_nil, List.length_append]
    generalize hF : M.flatten = F at *
    rw [List.range_eq_range', ← List.range'_append (s := 0) (m := F.length) (n := (w :: t).length) (step := 1), List.filter_append]
    congr 1
    · rw [List.range_eq_range']
      apply List.filter_congr
      intro i hi
      have hi : i < F.length := by simpa using hi
      unfold highB
      rw [List.take_append_of_le_length (by omega)]
      congr 1
      funext one
      rw [List.getD_eq_getElem?_getD, List.getD_eq_getElem?_getD, List.getElem?_append_left hi]
    · simp only [Nat.mul_one, Nat.one_mul, Nat.zero_add, List.length_cons, List.range'_succ, List.filter_cons]
      have h0 : highB (F ++ w :: t) F.length = true := by
        unfold highB
        rw [List.take_left' rfl, List.all_eq_true]
        intro one hone
        rw [← hF] at hone
        obtain ⟨s, hs, hone⟩ := List.mem_flatten.mp hone
        obtain ⟨v, u, rfl, hu⟩ := sg.hd s (by simp [hs])
        have h1 : v < w := asc.2.2 (v :: u) hs (w :: t) (by simp)
        have h2 : one ≤ v := by
          rcases List.mem_cons.mp hone with e | h
          · omega
          · have := hu one h; omega
        have : (F ++ w :: t).getD F.length 0 = w := by simp [List.getD_eq_getElem?_getD]
        rw [this]; simp; omega
      rw [if_pos h0]
      congr 1
      rw [List.filter_eq_nil_iff]
      intro i hi
      have hi : F.length + 1 ≤ i ∧ i < F.length + 1 + t.length := by simpa using hi
      obtain ⟨j, rfl⟩ : ∃ j, i = F.length + 1 + j := ⟨i - (F.length + 1), by omega⟩
      have hj : j < t.length := by omega
      unfold highB
      have e1 : (F ++ w :: t).getD (F.length + 1 + j) 0 = t[j] := by
        rw [List.getD_eq_getElem?_getD, List.getElem?_append_right (by omega), show F.length + 1 + j - F.length = j + 1 by omega, List.getElem?_cons_succ, List.getElem?_eq_getElem hj]; rfl
      have e2 : w ∈ (F ++ w :: t).take (F.length + 1 + j) := by
        rw [List.take_append]
        rw [show F.length + 1 + j - F.length = j + 1 by omega, List.take_succ_cons]; simp
      rw [e1]
      intro h
      have := List.all_eq_true.mp h w e2
      have := ht t[j] (List.getElem_mem hj)
      simp at *; omega
theorem high_eq {L : List (List Int)} (sg : Sg L) (h : L.flatten.length ≤ 1000) : Pl.high_ones L.flatten = .ok ((startsF 0 L).map fun (i : Nat) => (i : Int)) := by
  unfold Pl.high_ones
  rw [rng_ok (by decide) (by decide) (by omega) (by omega), bindR rfl, rangeI_nat]
  rw [fm_eq2 (fun i : Int => highB L.flatten i.toNat) (fun i => i) _ (by
    intro i hi
    obtain ⟨k, hk, rfl⟩ := List.mem_map.mp hi
    have hk : k < L.flatten.length := by simpa using hk
    rw [bindR rfl, cutL_to, mapM_eq (fun one => decide (L.flatten.getD k 0 > one)) _ (fun x _ => by rw [ix_nat hk]; rfl), bindR rfl, sz_ok (by simp; omega), bindR rfl]
    simp only [List.all_map, Function.comp_def, id, Int.toNat_natCast]; rfl) (fun _ _ _ => rfl)]
  rw [bindR rfl, List.map_id', List.filter_map]
  simp only [Function.comp_def, Int.toNat_natCast]
  rw [show ((List.range L.flatten.length).filter fun x => highB L.flatten x) = startsF 0 L from high_filter sg]
  refine sz_ok ?_
  rw [List.length_map, starts_len]
  have := len_flat L fun r hr => by obtain ⟨w, t, rfl, _⟩ := sg.hd r hr; simp
  omega
def pairsF : Nat → List (List Int) → List (Nat × Nat)
  | _, [] => []
  | a, r :: L => (a, a + r.length) :: pairsF (a + r.length) L
theorem starts_zip : ∀ (L : List (List Int)) (a : Nat), (startsF a L ++ [a + L.flatten.length]).zip ((startsF a L ++ [a + L.flatten.length]).drop 1) = pairsF a L
  | [], a => rfl
  | r :: L, a => by
    have ih := starts_zip L (a + r.length)
    have e : a + (r :: L).flatten.length = a + r.length + L.flatten.length := by simp; omega
    rw [e, startsF, pairsF, ← ih]
    cases L with
    | nil => simp [startsF]
    | cons s L => simp [startsF]
theorem zip_cast (l m : List Nat) : (l.map fun (i : Nat) => (i : Int)).zip (m.map fun (i : Nat) => (i : Int)) = (l.zip m).map fun p => ((p.1 : Int), (p.2 : Int)) := by
  rw [List.zip_map]; rfl
/-- one ring's numbers put -/
theorem put_run {r : List Int} {n : Nat} (nd : r.Nodup) (hb : ∀ x ∈ r, 1 ≤ x ∧ x ≤ n) (found : List Int) (hf : found.length = n) : Wp (R.for_ (fun (x : Int × Int) found => match x with | (value, come) => (((R.ok come).bind fun t6 => (R.ok (value - (1 : Int))).bind fun t7 => R.setI found t7 t6).bind fun found => R.ok found)) (r.zip (r.drop 1 ++ r.take 1)) found) fun z => z.length = n ∧ Clo z r ∧ ∀ x : Int, 1 ≤ x → x ≤ n → x ∉ r → ap z x = ap found x := by
  have hz : (r.zip (r.drop 1 ++ r.take 1)).map Prod.fst = r := by
    rw [List.map_fst_zip]; simp; omega
  refine (for_pre (fun p (z : List Int) => z.length = n ∧ (∀ q ∈ p, ap z q.1 = q.2) ∧ ∀ x : Int, 1 ≤ x → x ≤ n → x ∉ p.map Prod.fst → ap z x = ap found x) ⟨hf, fun _ h => (nomatch h), fun _ _ _ _ => rfl⟩ ?_).wk ?_
  · rintro p ⟨v, c⟩ q z e ⟨h1, h2, h3⟩
    have e' := congrArg (List.map Prod.fst) e
    rw [hz, List.map_append, List.map_cons] at e'
    have hv : v ∈ r := by rw [e']; simp
    have hvb := hb v hv
    have hvp : v ∉ p.map Prod.fst := fun h => by
      rw [e'] at nd
      exact (List.nodup_append.mp nd).2.2 v h v (by simp) rfl
    simp only
    rw [bindR rfl, bindR rfl, setI_ok (by omega) (by omega), bindR rfl]
    have hne : ∀ x : Int, 1 ≤ x → x ≠ v → ap (z.set (v - 1).toNat c) x = ap z x := fun x hx hxv => by
      unfold ap
      rw [List.getD_eq_getElem?_getD, List.getD_eq_getElem?_getD, List.getElem?_set_ne (by omega)]
    have heq : ap (z.set (v - 1).toNat c) v = c := by
      unfold ap
      rw [List.getD_eq_getElem?_getD, List.getElem?_set_self (by omega)]; rfl
    refine Wp.ok ⟨by simp [h1], fun w hw => ?_, fun x hx hxn hxp => ?_⟩
    · rcases List.mem_append.mp hw with hw | hw
      · have hwp : w.1 ∈ p.map Prod.fst := List.mem_map.mpr ⟨w, hw, rfl⟩
        have hwr : w.1 ∈ r := by rw [e']; exact List.mem_append.mpr (.inl hwp)
        rw [hne w.1 (hb _ hwr).1 (fun q => hvp (q ▸ hwp))]
        exact h2 w hw
      · simp at hw; subst hw; exact heq
    · simp only [List.map_append, List.map_cons, List.map_nil, List.mem_append, List.mem_cons, List.not_mem_nil, or_false, not_or] at hxp
      rw [hne x hx hxp.2]
      exact h3 x hx hxn hxp.1
  · rintro z ⟨h1, h2, h3⟩
    refine ⟨h1, h2, fun x hx hxn hxr => h3 x hx hxn ?_⟩
    rw [hz]; exact hxr
theorem cut_ring {a r b : List Int} : cutL (a ++ r ++ b) (some (a.length : Int)) (some ((a.length + r.length : Nat) : Int)) = r := by
  rw [cutL_two _ _ _ (by omega), List.take_append_of_le_length (by simp), List.take_of_length_le (by simp), List.drop_left' rfl]
theorem lows_wp {L : List (List Int)} (sg : Sg L) (ho : IsOrd L.flatten) (h : L.flatten.length ≤ 1000) : Wp (Pl.lows_as_rings L.flatten) fun o => o.length = L.flatten.length ∧ Rg o L := by
  unfold Pl.lows_as_rings
  rw [bindR rfl, sz_ok (by rw [List.length_map]; omega), bindR rfl, high_eq sg h]
  have hlen := len_flat L fun r hr => by obtain ⟨w, t, rfl, _⟩ := sg.hd r hr; simp
  rw [bindR rfl, sz_ok (by simp [starts_len]; omega), bindR rfl]
  have e1 : ((startsF 0 L).map fun (i : Nat) => (i : Int)) ++ [(L.flatten.length : Int)] = (startsF 0 L ++ [0 + L.flatten.length]).map fun (i : Nat) => (i : Int) := by simp
  rw [e1, show (1 : Int) = ((1 : Nat) : Int) from rfl, cutL_from, ← List.map_drop, zip_cast, starts_zip, bindR rfl]
  have key : ∀ (M : List (List Int)) (p : List (List Int)) (found : List Int), L = p ++ M → found.length = L.flatten.length → (∀ r ∈ p, Clo found r) → Wp (R.for_ (fun (x : Int × Int) found => match x with
      | (one, other) => (R.ok (cutL L.flatten (some one) (some other))).bind fun row => ((R.ok row).bind fun t4 => ((R.sz ((cutL row (some ((1 : Nat) : Int)) none) ++ (cutL row none (some ((1 : Nat) : Int)))))).bind fun t5 => R.ok (t4.zip t5)).bind fun xs => (R.for_ (fun (x : Int × Int) found => match x with | (value, come) => (((R.ok come).bind fun t6 => (R.ok (value - ((1 : Nat) : Int))).bind fun t7 => R.setI found t7 t6).bind fun found => R.ok found)) xs found).bind fun found => R.ok found)
      ((pairsF p.flatten.length M).map fun p => ((p.1 : Int), (p.2 : Int))) found) fun o => o.length = L.flatten.length ∧ ∀ r ∈ L, Clo o r := by
    intro M
    induction M with
    | nil => intro p found e hf hc; simp at e; subst e; exact Wp.ok ⟨hf, hc⟩
    | cons r M ih =>
      intro p found e hf hc
      rw [pairsF, List.map_cons, R.for_]
      simp only
      have ef : L.flatten = p.flatten ++ r ++ M.flatten := by rw [e]; simp
      rw [bindR rfl]
      have ecut : cutL L.flatten (some (p.flatten.length : Int)) (some ((p.flatten.length + r.length : Nat) : Int)) = r := by rw [ef]; exact cut_ring
      rw [ecut]
      have hrl : r.length ≤ 1000 := by
        have := congrArg List.length ef
        simp only [List.length_append] at this; omega
      rw [bindR rfl, cutL_from, cutL_to, sz_ok (by simp; omega), bindR rfl, bindR rfl]
      have nd := ho.1
      rw [ef] at nd
      have nd1 := List.nodup_append.mp nd
      have nd2 := List.nodup_append.mp nd1.1
      have hbr : ∀ x ∈ L.flatten, 1 ≤ x ∧ x ≤ L.flatten.length := ho.2
      refine Wp.bind (Wp.bind (put_run nd2.2.1 (n := L.flatten.length) (fun x hx => hbr x (by rw [ef]; simp [hx])) found hf) fun z hz => Wp.ok hz) ?_
      rintro z ⟨h1, h2, h3⟩
      have := ih (p ++ [r]) z (by rw [e]; simp) h1 (fun s hs => by
        rcases List.mem_append.mp hs with hs | hs
        · intro q hq
          have hq1 : q.1 ∈ s := (List.of_mem_zip hq).1
          have hqf : q.1 ∈ p.flatten := List.mem_flatten.mpr ⟨s, hs, hq1⟩
          have hqb := hbr q.1 (by rw [ef]; simp only [List.mem_append]; exact .inl (.inl hqf))
          rw [h3 q.1 hqb.1 hqb.2 (fun hr => nd2.2.2 q.1 hqf q.1 hr rfl)]
          exact hc s hs q hq
        · simp at hs; subst hs; exact h2)
      rw [show (p ++ [r]).flatten.length = p.flatten.length + r.length by simp] at this
      exact this
  refine Wp.bind (key L [] _ (by simp) (by rw [List.length_map]) (fun _ h => nomatch h)) ?_
  rintro o ⟨h1, h2⟩
  exact Wp.ok ⟨h1, ⟨sg, by rw [h1]; exact ho.perm, h2⟩⟩
/-- an order is told by its rings -/
theorem rg_eq {o o' : List Int} {L : List (List Int)} (h : Rg o L) (h' : Rg o' L) : o = o' := by
  have hl : o.length = o'.length := by rw [← h.small, ← h'.small]
  refine List.ext_getElem hl fun i h1 h2 => ?_
  have hm : ((i : Int) + 1) ∈ L.flatten := h.perm.mem_iff.mpr (mem_upTo.mpr (by omega))
  obtain ⟨r, hr, hir⟩ := List.mem_flatten.mp hm
  have key : ∃ y, ((i : Int) + 1, y) ∈ r.zip (r.drop 1 ++ r.take 1) := by
    obtain ⟨j, hj, e⟩ := List.mem_iff_getElem.mp hir
    refine ⟨(r.drop 1 ++ r.take 1)[j]'(by simp; omega), ?_⟩
    rw [← e, List.mem_iff_getElem]
    exact ⟨j, by simp; omega, by simp⟩
  obtain ⟨y, hy⟩ := key
  have a1 := h.clo r hr _ hy
  have a2 := h'.clo r hr _ hy
  unfold ap at a1 a2
  simp only [Int.add_sub_cancel, Int.toNat_natCast] at a1 a2
  rw [getD_eq h1] at a1
  rw [getD_eq h2] at a2
  rw [a1, a2]
/-! ### the numbers, for one to six things: by the kernel -/
def E18 (m : Nat) : List (List Int) := mst 6 (allF m)
/-- the law's look at the numbers, all orders being told -/
def cnt18 (many : Int) (every : List (List Int)) : R Bool :=
 (((Pl.by_falls many).bind fun t12 => (((R.ok every).bind fun xs => (R.mapM (fun order => (Pl.u_law_falls_of order)) xs).bind R.sz).bind fun t14 => Pl.u_law_counts t14).bind fun t16 => R.ok (!decide (t12 = t16))).bind fun t27 => if t27 = true then R.ok true else ((Pl.by_inversions many).bind fun t22 => (((R.ok every).bind fun xs => (R.mapM (fun order => (Pl.u_law_turned order)) xs).bind R.sz).bind fun t24 => Pl.u_law_counts t24).bind fun t26 => R.ok (!decide (t22 = t26)))).bind fun t28 => if t28 = true then
 R.ok false
 else
 ((Pl.by_rings many).bind fun t35 => (((R.ok every).bind fun xs => (R.mapM (fun order => ((Pl.u_law_rings order).bind fun t37 => R.ok (t37.length : Int))) xs).bind R.sz).bind fun t38 => Pl.u_law_counts t38).bind fun t40 => R.ok (!decide (t35 = t40))).bind fun t41 => if t41 = true then
 R.ok false
 else
 ((R.ok every).bind fun xs => (R.fm (fun order => ((((R.rng 0 (many - (1 : Int))).bind fun xs => (R.mapM (fun at_ => ((((R.ix order at_)).bind fun t44 => ((R.ix order (at_ + (1 : Int)))).bind fun t45 => R.ok (decide (t44 < t45))).bind fun t46 => R.ok (decide (t46 = (decide ((at_ % (2 : Int)) = (0 : Int))))))) xs).bind R.sz).bind fun t47 => R.ok (t47.all id))).bind fun b => if b = true then (R.ok order).bind fun y => R.ok (some y) else R.ok none) xs).bind R.sz).bind fun turns =>
 ((Pl.up_down many).bind fun t50 => R.ok (!decide (t50 = (turns.length : Int)))).bind fun t51 => if t51 = true then
 R.ok false
 else R.ok true
theorem cnt_1 : isOk (cnt18 1 (E18 1)) true = true := by decide +kernel
theorem cnt_2 : isOk (cnt18 2 (E18 2)) true = true := by decide +kernel
theorem cnt_3 : isOk (cnt18 3 (E18 3)) true = true := by decide +kernel
theorem cnt_4 : isOk (cnt18 4 (E18 4)) true = true := by decide +kernel
theorem cnt_5 : isOk (cnt18 5 (E18 5)) true = true := by decide +kernel
theorem cnt_6 : isOk (cnt18 6 (E18 6)) true = true := by decide +kernel
theorem cnt_ok {m : Nat} (h1 : 1 ≤ m) (h2 : m ≤ 6) : cnt18 (m : Int) (sortR (allF m)) = .ok true := by
  rw [mst_eq 6]
  match m, h1, h2 with
  | 1, _, _ => exact isOk_ok cnt_1
  | 2, _, _ => exact isOk_ok cnt_2
  | 3, _, _ => exact isOk_ok cnt_3
  | 4, _, _ => exact isOk_ok cnt_4
  | 5, _, _ => exact isOk_ok cnt_5
  | 6, _, _ => exact isOk_ok cnt_6
  | m + 7, _, h => exact absurd h (by omega)
/-- the law's look, with what comes behind -/
theorem cnt_bind {β : Type} {many : Int} {every : List (List Int)} {K F : R β} (h : cnt18 many every = .ok true) :
 ((((Pl.by_falls many).bind fun t12 => (((R.ok every).bind fun xs => (R.mapM (fun order => (Pl.u_law_falls_of order)) xs).bind R.sz).bind fun t14 => Pl.u_law_counts t14).bind fun t16 => R.ok (!decide (t12 = t16))).bind fun t27 => if t27 = true then R.ok true else ((Pl.by_inversions many).bind fun t22 => (((R.ok every).bind fun xs => (R.mapM (fun order => (Pl.u_law_turned order)) xs).bind R.sz).bind fun t24 => Pl.u_law_counts t24).bind fun t26 => R.ok (!decide (t22 = t26)))).bind fun t28 => if t28 = true then
 F
 else
 ((Pl.by_rings many).bind fun t35 => (((R.ok every).bind fun xs => (R.mapM (fun order => ((Pl.u_law_rings order).bind fun t37 => R.ok (t37.length : Int))) xs).bind R.sz).bind fun t38 => Pl.u_law_counts t38).bind fun t40 => R.ok (!decide (t35 = t40))).bind fun t41 => if t41 = true then
 F
 else
 ((R.ok every).bind fun xs => (R.fm (fun order => ((((R.rng 0 (many - (1 : Int))).bind fun xs => (R.mapM (fun at_ => ((((R.ix order at_)).bind fun t44 => ((R.ix order (at_ + (1 : Int)))).bind fun t45 => R.ok (decide (t44 < t45))).bind fun t46 => R.ok (decide (t46 = (decide ((at_ % (2 : Int)) = (0 : Int))))))) xs).bind R.sz).bind fun t47 => R.ok (t47.all id))).bind fun b => if b = true then (R.ok order).bind fun y => R.ok (some y) else R.ok none) xs).bind R.sz).bind fun turns =>
 ((Pl.up_down many).bind fun t50 => R.ok (!decide (t50 = (turns.length : Int)))).bind fun t51 => if t51 = true then
 F
 else K) = K := by
  have step : ∀ {α : Type} (x : R α) (k : α → R Bool) (k' : α → R β), x.bind k = .ok true → (∀ a, k a = .ok true → k' a = K) → x.bind k' = K := fun x k k' h g => by
    cases x with
    | ok a => exact g a h
    | exc _ _ => cases h
    | bad => cases h
  unfold cnt18 at h
  refine step _ _ _ h fun a ha => ?_
  cases a with
  | true => simp at ha
  | false =>
    simp only [Bool.false_eq_true, if_false] at ha ⊢
    refine step _ _ _ ha fun a ha => ?_
    cases a with
    | true => simp at ha
    | false =>
      simp only [Bool.false_eq_true, if_false] at ha ⊢
      refine step _ _ _ ha fun a ha => ?_
      refine step _ _ _ ha fun a ha => ?_
      cases a with
      | true => simp at ha
      | false => simp
theorem rowOk_of {n : Nat} {l : List Int} (h : RowOk n l) : l.length = n := by
  induction l generalizing n with
  | nil => exact h.symm
  | cons r l ih => obtain ⟨h0, h1, h2⟩ := h; have := ih h2; simp; omega
theorem law_plain (ns : List Int) (hns : ns.length ≤ 63) : Pl.law ns = .ok true := by
  apply Wp.get
  unfold Pl.law
  have hc := cutL_len ns none (some 24)
  rw [sz_ok (by simp; omega), bindR rfl]
  refine Wp.bind (draws_wp (by simp) (by simp; omega)) fun state g => ?_
  refine Wp.bind (P := fun r : Int × St => ∃ m : Nat, r.1 = (m : Int) ∧ 1 ≤ m ∧ m ≤ 6 ∧ GoodSt r.2) (Wp.bind (next_nat g (n := 6) (by omega)) ?_) ?_
  · rintro ⟨_, s⟩ ⟨m, rfl, hm, g'⟩
    exact Wp.ok ⟨m + 1, by simp only; omega, by omega, by omega, g'⟩
  rintro ⟨_, state⟩ ⟨m, rfl, hm1, hm6, g⟩
  simp only at g ⊢
  rw [all_orders_eq (by omega), bindR rfl]
  rw [cnt_bind (cnt_ok hm1 hm6)]
  rw [rng_ok (by decide) (by decide) (by decide) (by decide), bindR rfl]
  refine thenF_nx (forF_all GoodSt g ?_) fun s _ => Wp.ok rfl
  intro _ _ state g
  refine Wp.bind (any_wp g (n := 9) (by omega) (by omega)) ?_
  rintro ⟨o, state⟩ ⟨ho, hn, g⟩
  simp only at ho hn g ⊢
  rw [copied_LI (by omega), bindR rfl, row_eq (w := fun _ => (1 : Int)) (by omega), bindR rfl, code_eq (by omega), bindR rfl]
  obtain ⟨hdc, hrow⟩ := dec_code o (upTo o.length) ho.1 (upTo_asc _) ho.perm.symm
  rw [upTo_len] at hrow
  have hooc : Pl.order_of_code (codeM o) = .ok o := by
    rw [ooc_eq (by rw [codeM_len]; omega) (by rw [codeM_len]; exact hrow), codeM_len, hdc]
  rw [hooc]
  simp (implicitDefEqProofs := false) only [R.bind_ok, decide_true, Bool.not_true, Bool.false_eq_true, if_false]
  rw [rng_ok (by decide) (by decide) (by omega) (by omega), bindR rfl, rangeI_nat, List.range_eq_range']
  refine Wp.bind (Wp.bind (drawn_wp (n := o.length) o.length state 0 g (by omega)) ?_ (Q := fun r => RowOk o.length r.1 ∧ GoodSt r.2)) ?_
  · rintro ⟨drawn, s⟩ ⟨h1, h2, g⟩
    simp only at h1 h2 g ⊢
    rw [sz_ok (by omega), bindR rfl]
    exact Wp.ok ⟨h1, g⟩
  rintro ⟨drawn, state⟩ ⟨hdr, g⟩
  simp only at hdr g ⊢
  have hdl := rowOk_of hdr
  have h1 : Pl.order_of_code drawn = .ok (decM (upTo o.length) drawn) := by
    have := ooc_eq (row := drawn) (by omega) (by rw [hdl]; exact hdr)
    rwa [hdl] at this
  rw [h1]
  simp (implicitDefEqProofs := false) only [R.bind_ok]
  rw [code_eq (by rw [decM_len]; omega), code_dec drawn (upTo o.length) (upTo_asc _) (by rw [upTo_len]; exact hdr)]
  simp (implicitDefEqProofs := false) only [R.bind_ok, decide_true, Bool.not_true, Bool.false_eq_true, if_false]
  obtain ⟨L, hL⟩ := rg_ex ho
  have hLl := hL.small
  rw [lrings_eq hL (by omega)]
  simp (implicitDefEqProofs := false) only [R.bind_ok]
  rw [flat_run (by omega), bindR rfl, rlows_eq hL (by omega)]
  simp (implicitDefEqProofs := false) only [R.bind_ok, decide_true, Bool.not_true, Bool.false_eq_true, if_false]
  have hLo : IsOrd L.flatten := (IsOrd.of_perm hL.perm).1
  obtain ⟨o', e', hl', hR'⟩ := lows_wp hL.toSg hLo (by omega)
  have : o' = o := rg_eq hR' hL
  subst this
  rw [e']
  simp (implicitDefEqProofs := false) only [R.bind_ok, decide_true, Bool.not_true, Bool.false_eq_true, if_false]
  -- rings of any order's parts
  obtain ⟨M, sgM, eM, _⟩ := sg_ex o' ho.1
  have hMo : IsOrd M.flatten := by rw [eM]; exact ho
  obtain ⟨o2, e2, hl2, hR2⟩ := lows_wp sgM hMo (by rw [eM]; omega)
  rw [eM] at e2 hl2
  rw [e2]
  simp (implicitDefEqProofs := false) only [R.bind_ok]
  rw [rlows_eq hR2 (by omega), eM]
  simp (implicitDefEqProofs := false) only [R.bind_ok, decide_true, Bool.not_true, Bool.false_eq_true, if_false]
  rw [high_eq hL.toSg (by omega)]
  simp (implicitDefEqProofs := false) only [R.bind_ok, List.length_map, starts_len, decide_true, Bool.not_true, Bool.false_eq_true, if_false]
  rw [same_LI (by omega) (by omega)]
  simp (implicitDefEqProofs := false) only [R.bind_ok, decide_true, Bool.not_true, Bool.false_eq_true, if_false]
  exact Wp.ok ⟨state, rfl, g⟩
theorem hlaw : ∀ ns : List Int, ns.length ≤ 63 → callN tbl 100 9 21 [.scr ns] = .ok (.bl true, []) := fun ns h => by
  have q := S.law_ok (k := 0) ns
  rw [law_plain ns h] at q
  exact q.get
abbrev P : Program := PySem.Challenge.pw_orderyards_k18_whole_numbers_of_orders
def topS (i : Nat) : Stmt := P.main.body.getD i (.Pass ⟨0, 0, 0, 0⟩)
def sts : List Stmt := [topS 1, topS 2, topS 3, topS 4, topS 5, topS 6, topS 7, topS 8, topS 9, topS 11, topS 12, topS 14, topS 15, topS 16, topS 17, topS 18, topS 19, topS 20, topS 21, topS 22, topS 23, topS 24]
def bl : List Str := ["all", "bool", "dict", "int", "isinstance", "len", "list", "max", "range", "sorted", "sum", "tuple", "zip"]
def gl : List Nat := []
def sp : List Nat := []
theorem ck_all : ckAll tbl bl gl sp 0 tbl sts = true := by decide +kernel
section
variable {w : World} {K : PySem.W.Frag} {mg : Str → Option Value} {base h : Heap}
def adrOf (a0 a1 a2 a3 a4 a5 a6 a7 a8 a9 a10 a11 a12 a13 a14 a15 a16 a17 a18 a19 a20 a21 : Addr) : Nat → Addr
  | 0 => a0
  | 1 => a1
  | 2 => a2
  | 3 => a3
  | 4 => a4
  | 5 => a5
  | 6 => a6
  | 7 => a7
  | 8 => a8
  | 9 => a9
  | 10 => a10
  | 11 => a11
  | 12 => a12
  | 13 => a13
  | 14 => a14
  | 15 => a15
  | 16 => a16
  | 17 => a17
  | 18 => a18
  | 19 => a19
  | 20 => a20
  | 21 => a21
  | _ => 0
def fdaOf (d0 d1 d2 d3 d4 d5 d6 d7 d8 d9 d10 d11 d12 d13 d14 d15 d16 d17 d18 d19 d20 d21 : FuncData) : Nat → FuncData
  | 0 => d0
  | 1 => d1
  | 2 => d2
  | 3 => d3
  | 4 => d4
  | 5 => d5
  | 6 => d6
  | 7 => d7
  | 8 => d8
  | 9 => d9
  | 10 => d10
  | 11 => d11
  | 12 => d12
  | 13 => d13
  | 14 => d14
  | 15 => d15
  | 16 => d16
  | 17 => d17
  | 18 => d18
  | 19 => d19
  | 20 => d20
  | _ => d21
def ctx (w : World) (K : PySem.W.Frag) (mg : Str → Option Value) (base : Heap) (adr : Nat → Addr) (fda : Nat → FuncData) : CC where
  P := P
  w := w
  K := K
  mg := mg
  base := base
  N := []
  G := []
  io := []
  tbl := tbl
  adr := adr
  fda := fda
  bl := bl
  gl := gl
  cal := fun _ _ => .bad
  fuel := 100
  k := 0
  exc := fun _ => 0
theorem all_mk {fa a0 a1 a2 a3 a4 a5 a6 a7 a8 a9 a10 a11 a12 a13 a14 a15 a16 a17 a18 a19 a20 a21 : Addr} (X : K.In h) (G : h.Ns mainGlobals mg) (hfa : mg "law" = some (.ref fa))
    {od0 an0 od1 an1 od2 an2 od3 an3 od4 an4 od5 an5 od6 an6 od7 an7 od8 an8 od9 an9 od10 an10 od11 an11 od12 an12 od13 an13 od14 an14 od15 an15 od16 an16 od17 an17 od18 an18 od19 an19 od20 an20 od21 an21 : Option Addr} {sl0 sl1 sl2 sl3 sl4 sl5 sl6 sl7 sl8 sl9 sl10 sl11 sl12 sl13 sl14 sl15 sl16 sl17 sl18 sl19 sl20 sl21 : Array (Option Value)} {oc0 kV0 dc0 pm0 cd0 ct0 oc1 kV1 dc1 pm1 cd1 ct1 oc2 kV2 dc2 pm2 cd2 ct2 oc3 kV3 dc3 pm3 cd3 ct3 oc4 kV4 dc4 pm4 cd4 ct4 oc5 kV5 dc5 pm5 cd5 ct5 oc6 kV6 dc6 pm6 cd6 ct6 oc7 kV7 dc7 pm7 cd7 ct7 oc8 kV8 dc8 pm8 cd8 ct8 oc9 kV9 dc9 pm9 cd9 ct9 oc10 kV10 dc10 pm10 cd10 ct10 oc11 kV11 dc11 pm11 cd11 ct11 oc12 kV12 dc12 pm12 cd12 ct12 oc13 kV13 dc13 pm13 cd13 ct13 oc14 kV14 dc14 pm14 cd14 ct14 oc15 kV15 dc15 pm15 cd15 ct15 oc16 kV16 dc16 pm16 cd16 ct16 oc17 kV17 dc17 pm17 cd17 ct17 oc18 kV18 dc18 pm18 cd18 ct18 oc19 kV19 dc19 pm19 cd19 ct19 oc20 kV20 dc20 pm20 cd20 ct20 oc21 kV21 dc21 pm21 cd21 ct21 : Value}
    (n0 : PySem.W.nsIn K mainGlobals "by_falls" = some (some (.ref a0)))
    (l0 : K.lookup a0 = some ⟨oc0, od0, .func (PySem.W.fnOf "by_falls" "by_falls" (defArgs (topS 1)) (defBody (topS 1)) (defScope (topS 1)) .none kV0 dc0 pm0 an0 cd0 ct0), sl0⟩)
    (c0_ : PySem.W.codeIn K cd0 "by_falls" = true)
    (k0 : PySem.W.keepIn K (.ref a0) = true)
    (n1 : PySem.W.nsIn K mainGlobals "by_inversions" = some (some (.ref a1)))
    (l1 : K.lookup a1 = some ⟨oc1, od1, .func (PySem.W.fnOf "by_inversions" "by_inversions" (defArgs (topS 2)) (defBody (topS 2)) (defScope (topS 2)) .none kV1 dc1 pm1 an1 cd1 ct1), sl1⟩)
    (c1_ : PySem.W.codeIn K cd1 "by_inversions" = true)
    (k1 : PySem.W.keepIn K (.ref a1) = true)
    (n2 : PySem.W.nsIn K mainGlobals "by_rings" = some (some (.ref a2)))
    (l2 : K.lookup a2 = some ⟨oc2, od2, .func (PySem.W.fnOf "by_rings" "by_rings" (defArgs (topS 3)) (defBody (topS 3)) (defScope (topS 3)) .none kV2 dc2 pm2 an2 cd2 ct2), sl2⟩)
    (c2_ : PySem.W.codeIn K cd2 "by_rings" = true)
    (k2 : PySem.W.keepIn K (.ref a2) = true)
    (n3 : PySem.W.nsIn K mainGlobals "code" = some (some (.ref a3)))
    (l3 : K.lookup a3 = some ⟨oc3, od3, .func (PySem.W.fnOf "code" "code" (defArgs (topS 4)) (defBody (topS 4)) (defScope (topS 4)) .none kV3 dc3 pm3 an3 cd3 ct3), sl3⟩)
    (c3_ : PySem.W.codeIn K cd3 "code" = true)
    (k3 : PySem.W.keepIn K (.ref a3) = true)
    (n4 : PySem.W.nsIn K mainGlobals "order_of_code" = some (some (.ref a4)))
    (l4 : K.lookup a4 = some ⟨oc4, od4, .func (PySem.W.fnOf "order_of_code" "order_of_code" (defArgs (topS 5)) (defBody (topS 5)) (defScope (topS 5)) .none kV4 dc4 pm4 an4 cd4 ct4), sl4⟩)
    (c4_ : PySem.W.codeIn K cd4 "order_of_code" = true)
    (k4 : PySem.W.keepIn K (.ref a4) = true)
    (n5 : PySem.W.nsIn K mainGlobals "rings_as_lows" = some (some (.ref a5)))
    (l5 : K.lookup a5 = some ⟨oc5, od5, .func (PySem.W.fnOf "rings_as_lows" "rings_as_lows" (defArgs (topS 6)) (defBody (topS 6)) (defScope (topS 6)) .none kV5 dc5 pm5 an5 cd5 ct5), sl5⟩)
    (c5_ : PySem.W.codeIn K cd5 "rings_as_lows" = true)
    (k5 : PySem.W.keepIn K (.ref a5) = true)
    (n6 : PySem.W.nsIn K mainGlobals "high_ones" = some (some (.ref a6)))
    (l6 : K.lookup a6 = some ⟨oc6, od6, .func (PySem.W.fnOf "high_ones" "high_ones" (defArgs (topS 7)) (defBody (topS 7)) (defScope (topS 7)) .none kV6 dc6 pm6 an6 cd6 ct6), sl6⟩)
    (c6_ : PySem.W.codeIn K cd6 "high_ones" = true)
    (k6 : PySem.W.keepIn K (.ref a6) = true)
    (n7 : PySem.W.nsIn K mainGlobals "lows_as_rings" = some (some (.ref a7)))
    (l7 : K.lookup a7 = some ⟨oc7, od7, .func (PySem.W.fnOf "lows_as_rings" "lows_as_rings" (defArgs (topS 8)) (defBody (topS 8)) (defScope (topS 8)) .none kV7 dc7 pm7 an7 cd7 ct7), sl7⟩)
    (c7_ : PySem.W.codeIn K cd7 "lows_as_rings" = true)
    (k7 : PySem.W.keepIn K (.ref a7) = true)
    (n8 : PySem.W.nsIn K mainGlobals "up_down" = some (some (.ref a8)))
    (l8 : K.lookup a8 = some ⟨oc8, od8, .func (PySem.W.fnOf "up_down" "up_down" (defArgs (topS 9)) (defBody (topS 9)) (defScope (topS 9)) .none kV8 dc8 pm8 an8 cd8 ct8), sl8⟩)
    (c8_ : PySem.W.codeIn K cd8 "up_down" = true)
    (k8 : PySem.W.keepIn K (.ref a8) = true)
    (n9 : PySem.W.nsIn K mainGlobals "_law_draws" = some (some (.ref a9)))
    (l9 : K.lookup a9 = some ⟨oc9, od9, .func (PySem.W.fnOf "_law_draws" "_law_draws" (defArgs (topS 11)) (defBody (topS 11)) (defScope (topS 11)) .none kV9 dc9 pm9 an9 cd9 ct9), sl9⟩)
    (c9_ : PySem.W.codeIn K cd9 "_law_draws" = true)
    (k9 : PySem.W.keepIn K (.ref a9) = true)
    (n10 : PySem.W.nsIn K mainGlobals "_law_next" = some (some (.ref a10)))
    (l10 : K.lookup a10 = some ⟨oc10, od10, .func (PySem.W.fnOf "_law_next" "_law_next" (defArgs (topS 12)) (defBody (topS 12)) (defScope (topS 12)) .none kV10 dc10 pm10 an10 cd10 ct10), sl10⟩)
    (c10_ : PySem.W.codeIn K cd10 "_law_next" = true)
    (k10 : PySem.W.keepIn K (.ref a10) = true)
    (n11 : PySem.W.nsIn K mainGlobals "_law_copied" = some (some (.ref a11)))
    (l11 : K.lookup a11 = some ⟨oc11, od11, .func (PySem.W.fnOf "_law_copied" "_law_copied" (defArgs (topS 14)) (defBody (topS 14)) (defScope (topS 14)) .none kV11 dc11 pm11 an11 cd11 ct11), sl11⟩)
    (c11_ : PySem.W.codeIn K cd11 "_law_copied" = true)
    (k11 : PySem.W.keepIn K (.ref a11) = true)
    (n12 : PySem.W.nsIn K mainGlobals "_law_same" = some (some (.ref a12)))
    (l12 : K.lookup a12 = some ⟨oc12, od12, .func (PySem.W.fnOf "_law_same" "_law_same" (defArgs (topS 15)) (defBody (topS 15)) (defScope (topS 15)) .none kV12 dc12 pm12 an12 cd12 ct12), sl12⟩)
    (c12_ : PySem.W.codeIn K cd12 "_law_same" = true)
    (k12 : PySem.W.keepIn K (.ref a12) = true)
    (n13 : PySem.W.nsIn K mainGlobals "_law_order" = some (some (.ref a13)))
    (l13 : K.lookup a13 = some ⟨oc13, od13, .func (PySem.W.fnOf "_law_order" "_law_order" (defArgs (topS 16)) (defBody (topS 16)) (defScope (topS 16)) .none kV13 dc13 pm13 an13 cd13 ct13), sl13⟩)
    (c13_ : PySem.W.codeIn K cd13 "_law_order" = true)
    (k13 : PySem.W.keepIn K (.ref a13) = true)
    (n14 : PySem.W.nsIn K mainGlobals "_law_any_order" = some (some (.ref a14)))
    (l14 : K.lookup a14 = some ⟨oc14, od14, .func (PySem.W.fnOf "_law_any_order" "_law_any_order" (defArgs (topS 17)) (defBody (topS 17)) (defScope (topS 17)) .none kV14 dc14 pm14 an14 cd14 ct14), sl14⟩)
    (c14_ : PySem.W.codeIn K cd14 "_law_any_order" = true)
    (k14 : PySem.W.keepIn K (.ref a14) = true)
    (n15 : PySem.W.nsIn K mainGlobals "_law_made" = some (some (.ref a15)))
    (l15 : K.lookup a15 = some ⟨oc15, od15, .func (PySem.W.fnOf "_law_made" "_law_made" (defArgs (topS 18)) (defBody (topS 18)) (defScope (topS 18)) .none kV15 dc15 pm15 an15 cd15 ct15), sl15⟩)
    (c15_ : PySem.W.codeIn K cd15 "_law_made" = true)
    (k15 : PySem.W.keepIn K (.ref a15) = true)
    (n16 : PySem.W.nsIn K mainGlobals "_law_all_orders" = some (some (.ref a16)))
    (l16 : K.lookup a16 = some ⟨oc16, od16, .func (PySem.W.fnOf "_law_all_orders" "_law_all_orders" (defArgs (topS 19)) (defBody (topS 19)) (defScope (topS 19)) .none kV16 dc16 pm16 an16 cd16 ct16), sl16⟩)
    (c16_ : PySem.W.codeIn K cd16 "_law_all_orders" = true)
    (k16 : PySem.W.keepIn K (.ref a16) = true)
    (n17 : PySem.W.nsIn K mainGlobals "_law_falls_of" = some (some (.ref a17)))
    (l17 : K.lookup a17 = some ⟨oc17, od17, .func (PySem.W.fnOf "_law_falls_of" "_law_falls_of" (defArgs (topS 20)) (defBody (topS 20)) (defScope (topS 20)) .none kV17 dc17 pm17 an17 cd17 ct17), sl17⟩)
    (c17_ : PySem.W.codeIn K cd17 "_law_falls_of" = true)
    (k17 : PySem.W.keepIn K (.ref a17) = true)
    (n18 : PySem.W.nsIn K mainGlobals "_law_turned" = some (some (.ref a18)))
    (l18 : K.lookup a18 = some ⟨oc18, od18, .func (PySem.W.fnOf "_law_turned" "_law_turned" (defArgs (topS 21)) (defBody (topS 21)) (defScope (topS 21)) .none kV18 dc18 pm18 an18 cd18 ct18), sl18⟩)
    (c18_ : PySem.W.codeIn K cd18 "_law_turned" = true)
    (k18 : PySem.W.keepIn K (.ref a18) = true)
    (n19 : PySem.W.nsIn K mainGlobals "_law_rings" = some (some (.ref a19)))
    (l19 : K.lookup a19 = some ⟨oc19, od19, .func (PySem.W.fnOf "_law_rings" "_law_rings" (defArgs (topS 22)) (defBody (topS 22)) (defScope (topS 22)) .none kV19 dc19 pm19 an19 cd19 ct19), sl19⟩)
    (c19_ : PySem.W.codeIn K cd19 "_law_rings" = true)
    (k19 : PySem.W.keepIn K (.ref a19) = true)
    (n20 : PySem.W.nsIn K mainGlobals "_law_counts" = some (some (.ref a20)))
    (l20 : K.lookup a20 = some ⟨oc20, od20, .func (PySem.W.fnOf "_law_counts" "_law_counts" (defArgs (topS 23)) (defBody (topS 23)) (defScope (topS 23)) .none kV20 dc20 pm20 an20 cd20 ct20), sl20⟩)
    (c20_ : PySem.W.codeIn K cd20 "_law_counts" = true)
    (k20 : PySem.W.keepIn K (.ref a20) = true)
    (n21 : PySem.W.nsIn K mainGlobals "law" = some (some (.ref a21)))
    (l21 : K.lookup a21 = some ⟨oc21, od21, .func (PySem.W.fnOf "law" "law" (defArgs (topS 24)) (defBody (topS 24)) (defScope (topS 24)) .none kV21 dc21 pm21 an21 cd21 ct21), sl21⟩)
    (c21_ : PySem.W.codeIn K cd21 "law" = true)
    (k21 : PySem.W.keepIn K (.ref a21) = true)
    (z0 : PySem.W.nsIn K mainGlobals "all" = some none)
    (z1 : PySem.W.nsIn K mainGlobals "bool" = some none)
    (z2 : PySem.W.nsIn K mainGlobals "dict" = some none)
    (z3 : PySem.W.nsIn K mainGlobals "int" = some none)
    (z4 : PySem.W.nsIn K mainGlobals "isinstance" = some none)
    (z5 : PySem.W.nsIn K mainGlobals "len" = some none)
    (z6 : PySem.W.nsIn K mainGlobals "list" = some none)
    (z7 : PySem.W.nsIn K mainGlobals "max" = some none)
    (z8 : PySem.W.nsIn K mainGlobals "range" = some none)
    (z9 : PySem.W.nsIn K mainGlobals "sorted" = some none)
    (z10 : PySem.W.nsIn K mainGlobals "sum" = some none)
    (z11 : PySem.W.nsIn K mainGlobals "tuple" = some none)
    (z12 : PySem.W.nsIn K mainGlobals "zip" = some none)
    : ∃ fd : FuncData, (∀ (s : Shared) (v : Value), BindsTo s fd ⟨[v], []⟩ [("script", v)]) ∧ ∀ base : Heap, K.In base → base.Ns mainGlobals mg → FnOk P w K mg base (L2.CX P w) 9 fa fd ["script"] (spLaw K) := by
  have e := hfa.symm.trans (PySem.W.mg_of X G n21)
  cases e
  have F0 : Fun K "by_falls" "by_falls" (topS 1) a0 (PySem.W.fnOf "by_falls" "by_falls" (defArgs (topS 1)) (defBody (topS 1)) (defScope (topS 1)) .none kV0 dc0 pm0 an0 cd0 ct0) := fun_mk l0 c0_ k0
  have b0 := F0.binds (ps := ["many"]) fun _ _ _ _ _ _ us hl => match us, hl with | [_], _ => rfl
  have F1 : Fun K "by_inversions" "by_inversions" (topS 2) a1 (PySem.W.fnOf "by_inversions" "by_inversions" (defArgs (topS 2)) (defBody (topS 2)) (defScope (topS 2)) .none kV1 dc1 pm1 an1 cd1 ct1) := fun_mk l1 c1_ k1
  have b1 := F1.binds (ps := ["many"]) fun _ _ _ _ _ _ us hl => match us, hl with | [_], _ => rfl
  have F2 : Fun K "by_rings" "by_rings" (topS 3) a2 (PySem.W.fnOf "by_rings" "by_rings" (defArgs (topS 3)) (defBody (topS 3)) (defScope (topS 3)) .none kV2 dc2 pm2 an2 cd2 ct2) := fun_mk l2 c2_ k2
  have b2 := F2.binds (ps := ["many"]) fun _ _ _ _ _ _ us hl => match us, hl with | [_], _ => rfl
  have F3 : Fun K "code" "code" (topS 4) a3 (PySem.W.fnOf "code" "code" (defArgs (topS 4)) (defBody (topS 4)) (defScope (topS 4)) .none kV3 dc3 pm3 an3 cd3 ct3) := fun_mk l3 c3_ k3
  have b3 := F3.binds (ps := ["order"]) fun _ _ _ _ _ _ us hl => match us, hl with | [_], _ => rfl
  have F4 : Fun K "order_of_code" "order_of_code" (topS 5) a4 (PySem.W.fnOf "order_of_code" "order_of_code" (defArgs (topS 5)) (defBody (topS 5)) (defScope (topS 5)) .none kV4 dc4 pm4 an4 cd4 ct4) := fun_mk l4 c4_ k4
  have b4 := F4.binds (ps := ["row"]) fun _ _ _ _ _ _ us hl => match us, hl with | [_], _ => rfl
  have F5 : Fun K "rings_as_lows" "rings_as_lows" (topS 6) a5 (PySem.W.fnOf "rings_as_lows" "rings_as_lows" (defArgs (topS 6)) (defBody (topS 6)) (defScope (topS 6)) .none kV5 dc5 pm5 an5 cd5 ct5) := fun_mk l5 c5_ k5
  have b5 := F5.binds (ps := ["order"]) fun _ _ _ _ _ _ us hl => match us, hl with | [_], _ => rfl
  have F6 : Fun K "high_ones" "high_ones" (topS 7) a6 (PySem.W.fnOf "high_ones" "high_ones" (defArgs (topS 7)) (defBody (topS 7)) (defScope (topS 7)) .none kV6 dc6 pm6 an6 cd6 ct6) := fun_mk l6 c6_ k6
  have b6 := F6.binds (ps := ["order"]) fun _ _ _ _ _ _ us hl => match us, hl with | [_], _ => rfl
  have F7 : Fun K "lows_as_rings" "lows_as_rings" (topS 8) a7 (PySem.W.fnOf "lows_as_rings" "lows_as_rings" (defArgs (topS 8)) (defBody (topS 8)) (defScope (topS 8)) .none kV7 dc7 pm7 an7 cd7 ct7) := fun_mk l7 c7_ k7
  have b7 := F7.binds (ps := ["order"]) fun _ _ _ _ _ _ us hl => match us, hl with | [_], _ => rfl
  have F8 : Fun K "up_down" "up_down" (topS 9) a8 (PySem.W.fnOf "up_down" "up_down" (defArgs (topS 9)) (defBody (topS 9)) (defScope (topS 9)) .none kV8 dc8 pm8 an8 cd8 ct8) := fun_mk l8 c8_ k8
  have b8 := F8.binds (ps := ["many"]) fun _ _ _ _ _ _ us hl => match us, hl with | [_], _ => rfl
  have F9 : Fun K "_law_draws" "_law_draws" (topS 11) a9 (PySem.W.fnOf "_law_draws" "_law_draws" (defArgs (topS 11)) (defBody (topS 11)) (defScope (topS 11)) .none kV9 dc9 pm9 an9 cd9 ct9) := fun_mk l9 c9_ k9
  have b9 := F9.binds (ps := ["cells"]) fun _ _ _ _ _ _ us hl => match us, hl with | [_], _ => rfl
  have F10 : Fun K "_law_next" "_law_next" (topS 12) a10 (PySem.W.fnOf "_law_next" "_law_next" (defArgs (topS 12)) (defBody (topS 12)) (defScope (topS 12)) .none kV10 dc10 pm10 an10 cd10 ct10) := fun_mk l10 c10_ k10
  have b10 := F10.binds (ps := ["state", "top"]) fun _ _ _ _ _ _ us hl => match us, hl with | [_, _], _ => rfl
  have F11 : Fun K "_law_copied" "_law_copied" (topS 14) a11 (PySem.W.fnOf "_law_copied" "_law_copied" (defArgs (topS 14)) (defBody (topS 14)) (defScope (topS 14)) .none kV11 dc11 pm11 an11 cd11 ct11) := fun_mk l11 c11_ k11
  have b11 := F11.binds (ps := ["value"]) fun _ _ _ _ _ _ us hl => match us, hl with | [_], _ => rfl
  have F12 : Fun K "_law_same" "_law_same" (topS 15) a12 (PySem.W.fnOf "_law_same" "_law_same" (defArgs (topS 15)) (defBody (topS 15)) (defScope (topS 15)) .none kV12 dc12 pm12 an12 cd12 ct12) := fun_mk l12 c12_ k12
  have b12 := F12.binds (ps := ["one", "other"]) fun _ _ _ _ _ _ us hl => match us, hl with | [_, _], _ => rfl
  have F13 : Fun K "_law_order" "_law_order" (topS 16) a13 (PySem.W.fnOf "_law_order" "_law_order" (defArgs (topS 16)) (defBody (topS 16)) (defScope (topS 16)) .none kV13 dc13 pm13 an13 cd13 ct13) := fun_mk l13 c13_ k13
  have b13 := F13.binds (ps := ["state", "many"]) fun _ _ _ _ _ _ us hl => match us, hl with | [_, _], _ => rfl
  have F14 : Fun K "_law_any_order" "_law_any_order" (topS 17) a14 (PySem.W.fnOf "_law_any_order" "_law_any_order" (defArgs (topS 17)) (defBody (topS 17)) (defScope (topS 17)) .none kV14 dc14 pm14 an14 cd14 ct14) := fun_mk l14 c14_ k14
  have b14 := F14.binds (ps := ["state", "most"]) fun _ _ _ _ _ _ us hl => match us, hl with | [_, _], _ => rfl
  have F15 : Fun K "_law_made" "_law_made" (topS 18) a15 (PySem.W.fnOf "_law_made" "_law_made" (defArgs (topS 18)) (defBody (topS 18)) (defScope (topS 18)) .none kV15 dc15 pm15 an15 cd15 ct15) := fun_mk l15 c15_ k15
  have b15 := F15.binds (ps := ["state", "most"]) fun _ _ _ _ _ _ us hl => match us, hl with | [_, _], _ => rfl
  have F16 : Fun K "_law_all_orders" "_law_all_orders" (topS 19) a16 (PySem.W.fnOf "_law_all_orders" "_law_all_orders" (defArgs (topS 19)) (defBody (topS 19)) (defScope (topS 19)) .none kV16 dc16 pm16 an16 cd16 ct16) := fun_mk l16 c16_ k16
  have b16 := F16.binds (ps := ["many"]) fun _ _ _ _ _ _ us hl => match us, hl with | [_], _ => rfl
  have F17 : Fun K "_law_falls_of" "_law_falls_of" (topS 20) a17 (PySem.W.fnOf "_law_falls_of" "_law_falls_of" (defArgs (topS 20)) (defBody (topS 20)) (defScope (topS 20)) .none kV17 dc17 pm17 an17 cd17 ct17) := fun_mk l17 c17_ k17
  have b17 := F17.binds (ps := ["order"]) fun _ _ _ _ _ _ us hl => match us, hl with | [_], _ => rfl
  have F18 : Fun K "_law_turned" "_law_turned" (topS 21) a18 (PySem.W.fnOf "_law_turned" "_law_turned" (defArgs (topS 21)) (defBody (topS 21)) (defScope (topS 21)) .none kV18 dc18 pm18 an18 cd18 ct18) := fun_mk l18 c18_ k18
  have b18 := F18.binds (ps := ["order"]) fun _ _ _ _ _ _ us hl => match us, hl with | [_], _ => rfl
  have F19 : Fun K "_law_rings" "_law_rings" (topS 22) a19 (PySem.W.fnOf "_law_rings" "_law_rings" (defArgs (topS 22)) (defBody (topS 22)) (defScope (topS 22)) .none kV19 dc19 pm19 an19 cd19 ct19) := fun_mk l19 c19_ k19
  have b19 := F19.binds (ps := ["order"]) fun _ _ _ _ _ _ us hl => match us, hl with | [_], _ => rfl
  have F20 : Fun K "_law_counts" "_law_counts" (topS 23) a20 (PySem.W.fnOf "_law_counts" "_law_counts" (defArgs (topS 23)) (defBody (topS 23)) (defScope (topS 23)) .none kV20 dc20 pm20 an20 cd20 ct20) := fun_mk l20 c20_ k20
  have b20 := F20.binds (ps := ["numbers"]) fun _ _ _ _ _ _ us hl => match us, hl with | [_], _ => rfl
  have F21 : Fun K "law" "law" (topS 24) fa (PySem.W.fnOf "law" "law" (defArgs (topS 24)) (defBody (topS 24)) (defScope (topS 24)) .none kV21 dc21 pm21 an21 cd21 ct21) := fun_mk l21 c21_ k21
  have b21 := F21.binds (ps := ["script"]) fun _ _ _ _ _ _ us hl => match us, hl with | [_], _ => rfl
  refine ⟨(PySem.W.fnOf "law" "law" (defArgs (topS 24)) (defBody (topS 24)) (defScope (topS 24)) .none kV21 dc21 pm21 an21 cd21 ct21), fun s v => .of_eq rfl, fun base _ _ => ?_⟩
  have T : Text (ctx w K mg base (adrOf a0 a1 a2 a3 a4 a5 a6 a7 a8 a9 a10 a11 a12 a13 a14 a15 a16 a17 a18 a19 a20 fa) (fdaOf (PySem.W.fnOf "by_falls" "by_falls" (defArgs (topS 1)) (defBody (topS 1)) (defScope (topS 1)) .none kV0 dc0 pm0 an0 cd0 ct0) (PySem.W.fnOf "by_inversions" "by_inversions" (defArgs (topS 2)) (defBody (topS 2)) (defScope (topS 2)) .none kV1 dc1 pm1 an1 cd1 ct1) (PySem.W.fnOf "by_rings" "by_rings" (defArgs (topS 3)) (defBody (topS 3)) (defScope (topS 3)) .none kV2 dc2 pm2 an2 cd2 ct2) (PySem.W.fnOf "code" "code" (defArgs (topS 4)) (defBody (topS 4)) (defScope (topS 4)) .none kV3 dc3 pm3 an3 cd3 ct3) (PySem.W.fnOf "order_of_code" "order_of_code" (defArgs (topS 5)) (defBody (topS 5)) (defScope (topS 5)) .none kV4 dc4 pm4 an4 cd4 ct4) (PySem.W.fnOf "rings_as_lows" "rings_as_lows" (defArgs (topS 6)) (defBody (topS 6)) (defScope (topS 6)) .none kV5 dc5 pm5 an5 cd5 ct5) (PySem.W.fnOf "high_ones" "high_ones" (defArgs (topS 7)) (defBody (topS 7)) (defScope (topS 7)) .none kV6 dc6 pm6 an6 cd6 ct6) (PySem.W.fnOf "lows_as_rings" "lows_as_rings" (defArgs (topS 8)) (defBody (topS 8)) (defScope (topS 8)) .none kV7 dc7 pm7 an7 cd7 ct7) (PySem.W.fnOf "up_down" "up_down" (defArgs (topS 9)) (defBody (topS 9)) (defScope (topS 9)) .none kV8 dc8 pm8 an8 cd8 ct8) (PySem.W.fnOf "_law_draws" "_law_draws" (defArgs (topS 11)) (defBody (topS 11)) (defScope (topS 11)) .none kV9 dc9 pm9 an9 cd9 ct9) (PySem.W.fnOf "_law_next" "_law_next" (defArgs (topS 12)) (defBody (topS 12)) (defScope (topS 12)) .none kV10 dc10 pm10 an10 cd10 ct10) (PySem.W.fnOf "_law_copied" "_law_copied" (defArgs (topS 14)) (defBody (topS 14)) (defScope (topS 14)) .none kV11 dc11 pm11 an11 cd11 ct11) (PySem.W.fnOf "_law_same" "_law_same" (defArgs (topS 15)) (defBody (topS 15)) (defScope (topS 15)) .none kV12 dc12 pm12 an12 cd12 ct12) (PySem.W.fnOf "_law_order" "_law_order" (defArgs (topS 16)) (defBody (topS 16)) (defScope (topS 16)) .none kV13 dc13 pm13 an13 cd13 ct13) (PySem.W.fnOf "_law_any_order" "_law_any_order" (defArgs (topS 17)) (defBody (topS 17)) (defScope (topS 17)) .none kV14 dc14 pm14 an14 cd14 ct14) (PySem.W.fnOf "_law_made" "_law_made" (defArgs (topS 18)) (defBody (topS 18)) (defScope (topS 18)) .none kV15 dc15 pm15 an15 cd15 ct15) (PySem.W.fnOf "_law_all_orders" "_law_all_orders" (defArgs (topS 19)) (defBody (topS 19)) (defScope (topS 19)) .none kV16 dc16 pm16 an16 cd16 ct16) (PySem.W.fnOf "_law_falls_of" "_law_falls_of" (defArgs (topS 20)) (defBody (topS 20)) (defScope (topS 20)) .none kV17 dc17 pm17 an17 cd17 ct17) (PySem.W.fnOf "_law_turned" "_law_turned" (defArgs (topS 21)) (defBody (topS 21)) (defScope (topS 21)) .none kV18 dc18 pm18 an18 cd18 ct18) (PySem.W.fnOf "_law_rings" "_law_rings" (defArgs (topS 22)) (defBody (topS 22)) (defScope (topS 22)) .none kV19 dc19 pm19 an19 cd19 ct19) (PySem.W.fnOf "_law_counts" "_law_counts" (defArgs (topS 23)) (defBody (topS 23)) (defScope (topS 23)) .none kV20 dc20 pm20 an20 cd20 ct20) (PySem.W.fnOf "law" "law" (defArgs (topS 24)) (defBody (topS 24)) (defScope (topS 24)) .none kV21 dc21 pm21 an21 cd21 ct21))) sp sts := {
    bl := (List.forall_mem_cons.mpr ⟨BlOk.no (by decide) (PySem.W.mg_none_of X G z0), (List.forall_mem_cons.mpr ⟨BlOk.no (by decide) (PySem.W.mg_none_of X G z1), (List.forall_mem_cons.mpr ⟨BlOk.no (by decide) (PySem.W.mg_none_of X G z2), (List.forall_mem_cons.mpr ⟨BlOk.no (by decide) (PySem.W.mg_none_of X G z3), (List.forall_mem_cons.mpr ⟨BlOk.no (by decide) (PySem.W.mg_none_of X G z4), (List.forall_mem_cons.mpr ⟨BlOk.no (by decide) (PySem.W.mg_none_of X G z5), (List.forall_mem_cons.mpr ⟨BlOk.no (by decide) (PySem.W.mg_none_of X G z6), (List.forall_mem_cons.mpr ⟨BlOk.no (by decide) (PySem.W.mg_none_of X G z7), (List.forall_mem_cons.mpr ⟨BlOk.no (by decide) (PySem.W.mg_none_of X G z8), (List.forall_mem_cons.mpr ⟨BlOk.no (by decide) (PySem.W.mg_none_of X G z9), (List.forall_mem_cons.mpr ⟨BlOk.no (by decide) (PySem.W.mg_none_of X G z10), (List.forall_mem_cons.mpr ⟨BlOk.no (by decide) (PySem.W.mg_none_of X G z11), (List.forall_mem_cons.mpr ⟨BlOk.no (by decide) (PySem.W.mg_none_of X G z12), (fun _ h => nomatch h)⟩)⟩)⟩)⟩)⟩)⟩)⟩)⟩)⟩)⟩)⟩)⟩)⟩)
    fn := fun f fd hf hg => by
      match f, hf with
      | 0, hf => cases (show some f0 = some fd from hf); exact ⟨topS 1, rfl, PySem.W.mg_of X G n0, b0, F0⟩
      | 1, hf => cases (show some f1 = some fd from hf); exact ⟨topS 2, rfl, PySem.W.mg_of X G n1, b1, F1⟩
      | 2, hf => cases (show some f2 = some fd from hf); exact ⟨topS 3, rfl, PySem.W.mg_of X G n2, b2, F2⟩
      | 3, hf => cases (show some f3 = some fd from hf); exact ⟨topS 4, rfl, PySem.W.mg_of X G n3, b3, F3⟩
      | 4, hf => cases (show some f4 = some fd from hf); exact ⟨topS 5, rfl, PySem.W.mg_of X G n4, b4, F4⟩
      | 5, hf => cases (show some f5 = some fd from hf); exact ⟨topS 6, rfl, PySem.W.mg_of X G n5, b5, F5⟩
      | 6, hf => cases (show some f6 = some fd from hf); exact ⟨topS 7, rfl, PySem.W.mg_of X G n6, b6, F6⟩
      | 7, hf => cases (show some f7 = some fd from hf); exact ⟨topS 8, rfl, PySem.W.mg_of X G n7, b7, F7⟩
      | 8, hf => cases (show some f8 = some fd from hf); exact ⟨topS 9, rfl, PySem.W.mg_of X G n8, b8, F8⟩
      | 9, hf => cases (show some f9 = some fd from hf); exact ⟨topS 11, rfl, PySem.W.mg_of X G n9, b9, F9⟩
      | 10, hf => cases (show some f10 = some fd from hf); exact ⟨topS 12, rfl, PySem.W.mg_of X G n10, b10, F10⟩
      | 11, hf => cases (show some f11 = some fd from hf); exact ⟨topS 14, rfl, PySem.W.mg_of X G n11, b11, F11⟩
      | 12, hf => cases (show some f12 = some fd from hf); exact ⟨topS 15, rfl, PySem.W.mg_of X G n12, b12, F12⟩
      | 13, hf => cases (show some f13 = some fd from hf); exact ⟨topS 16, rfl, PySem.W.mg_of X G n13, b13, F13⟩
      | 14, hf => cases (show some f14 = some fd from hf); exact ⟨topS 17, rfl, PySem.W.mg_of X G n14, b14, F14⟩
      | 15, hf => cases (show some f15 = some fd from hf); exact ⟨topS 18, rfl, PySem.W.mg_of X G n15, b15, F15⟩
      | 16, hf => cases (show some f16 = some fd from hf); exact ⟨topS 19, rfl, PySem.W.mg_of X G n16, b16, F16⟩
      | 17, hf => cases (show some f17 = some fd from hf); exact ⟨topS 20, rfl, PySem.W.mg_of X G n17, b17, F17⟩
      | 18, hf => cases (show some f18 = some fd from hf); exact ⟨topS 21, rfl, PySem.W.mg_of X G n18, b18, F18⟩
      | 19, hf => cases (show some f19 = some fd from hf); exact ⟨topS 22, rfl, PySem.W.mg_of X G n19, b19, F19⟩
      | 20, hf => cases (show some f20 = some fd from hf); exact ⟨topS 23, rfl, PySem.W.mg_of X G n20, b20, F20⟩
      | 21, hf => cases (show some f21 = some fd from hf); exact ⟨topS 24, rfl, PySem.W.mg_of X G n21, b21, F21⟩
      | f + 22, hf => cases (show (none : Option Fd) = some fd from hf)
    gl := fun f fd hf hg => by
      cases hg
    sp := fun f fd st hf hg hs he Fn k FF => by
      cases hs
  }
  exact law_ok T ck_all (k := 9) (f := 21) (fd := f21) rfl (show ¬ (21 : Nat) ∈ gl from by decide) rfl rfl rfl hlaw
end
end DL.Law
open PySem PySem.W PyProof.Rows
set_option maxHeartbeats 0 in
theorem PySem.Challenge.cw_orderyards_k18_whole_numbers_of_orders_holds : PySem.Challenge.rw_orderyards_k18_whole_numbers_of_orders.Holds := by
  w_on; o_law; k_head; (case hw => w_witness2)
  k_fill
  refine L2.walk_of (l := PySem.Challenge.rw_orderyards_k18_whole_numbers_of_orders) (n := 63) (k := 9) (x := "script") (CX := fun w => L2.CX DL.Law.P w) (sp := fun w => DL.spLaw _) rfl (by decide) rfl ⟨rfl, by decide, by decide⟩ (fun w h Y => PySem.W.kIn_of Y) ?F (fun _ _ a ns hl _ hS => ⟨a, ns, rfl, hS, hl, fun _ => rfl⟩) (fun _ _ _ _ _ h => DL.cx_none h)
  case F =>
    intro w mg fa h KX G hmg
    refine' DL.Law.all_mk KX G hmg ?n0 ?l0 ?c0_ ?k0 ?n1 ?l1 ?c1_ ?k1 ?n2 ?l2 ?c2_ ?k2 ?n3 ?l3 ?c3_ ?k3 ?n4 ?l4 ?c4_ ?k4 ?n5 ?l5 ?c5_ ?k5 ?n6 ?l6 ?c6_ ?k6 ?n7 ?l7 ?c7_ ?k7 ?n8 ?l8 ?c8_ ?k8 ?n9 ?l9 ?c9_ ?k9 ?n10 ?l10 ?c10_ ?k10 ?n11 ?l11 ?c11_ ?k11 ?n12 ?l12 ?c12_ ?k12 ?n13 ?l13 ?c13_ ?k13 ?n14 ?l14 ?c14_ ?k14 ?n15 ?l15 ?c15_ ?k15 ?n16 ?l16 ?c16_ ?k16 ?n17 ?l17 ?c17_ ?k17 ?n18 ?l18 ?c18_ ?k18 ?n19 ?l19 ?c19_ ?k19 ?n20 ?l20 ?c20_ ?k20 ?n21 ?l21 ?c21_ ?k21 ?z0 ?z1 ?z2 ?z3 ?z4 ?z5 ?z6 ?z7 ?z8 ?z9 ?z10 ?z11 ?z12
    (case n0 => k_is); (case l0 => k_is); (case c0_ => k_is); (case k0 => k_is); (case n1 => k_is); (case l1 => k_is); (case c1_ => k_is); (case k1 => k_is); (case n2 => k_is); (case l2 => k_is); (case c2_ => k_is); (case k2 => k_is); (case n3 => k_is); (case l3 => k_is); (case c3_ => k_is); (case k3 => k_is); (case n4 => k_is); (case l4 => k_is); (case c4_ => k_is); (case k4 => k_is); (case n5 => k_is); (case l5 => k_is); (case c5_ => k_is); (case k5 => k_is); (case n6 => k_is); (case l6 => k_is); (case c6_ => k_is); (case k6 => k_is); (case n7 => k_is); (case l7 => k_is); (case c7_ => k_is); (case k7 => k_is); (case n8 => k_is); (case l8 => k_is); (case c8_ => k_is); (case k8 => k_is); (case n9 => k_is); (case l9 => k_is); (case c9_ => k_is); (case k9 => k_is); (case n10 => k_is); (case l10 => k_is); (case c10_ => k_is); (case k10 => k_is); (case n11 => k_is); (case l11 => k_is); (case c11_ => k_is); (case k11 => k_is); (case n12 => k_is); (case l12 => k_is); (case c12_ => k_is); (case k12 => k_is); (case n13 => k_is); (case l13 => k_is); (case c13_ => k_is); (case k13 => k_is); (case n14 => k_is); (case l14 => k_is); (case c14_ => k_is); (case k14 => k_is); (case n15 => k_is); (case l15 => k_is); (case c15_ => k_is); (case k15 => k_is); (case n16 => k_is); (case l16 => k_is); (case c16_ => k_is); (case k16 => k_is); (case n17 => k_is); (case l17 => k_is); (case c17_ => k_is); (case k17 => k_is); (case n18 => k_is); (case l18 => k_is); (case c18_ => k_is); (case k18 => k_is); (case n19 => k_is); (case l19 => k_is); (case c19_ => k_is); (case k19 => k_is); (case n20 => k_is); (case l20 => k_is); (case c20_ => k_is); (case k20 => k_is); (case n21 => k_is); (case l21 => k_is); (case c21_ => k_is); (case k21 => k_is); (case z0 => k_is); (case z1 => k_is); (case z2 => k_is); (case z3 => k_is); (case z4 => k_is); (case z5 => k_is); (case z6 => k_is); (case z7 => k_is); (case z8 => k_is); (case z9 => k_is); (case z10 => k_is); (case z11 => k_is); (case z12 => k_is)
