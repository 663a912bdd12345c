import PyProof.Rows.All
import Wide.All
import OpenK.AllK
import Wide.FinOn
import HandS.ForMost
import HandS.Deep
import HandS.Wide
import HandS.IsInst
import HandS.Flow
import HandS.Conv
import HandS.Style
import HandS.Defaults
import HandS.SetKeys
import HandS.CallSlots
import HandS.Exc
import HandS.WordsExc
import HandS.More
import HandS.TupAny
import HandS.ExcOwn
import HandS.Zip
import HandS.Ends
import KE.KStateDown
import Lean
import HandS.Head0
import HandS.Head1
import HandS.Head2
import HandS.HeadEnd
import HandS.HeadHook1
import HandS.HeadHook2
import PyProof.Rows.RegFStrParts
import PySem.Challenge.RW_busyleaves_k38_triples_in_doubt
set_option Elab.async false
set_option linter.all false
set_option maxRecDepth 100000
set_option maxHeartbeats 0
namespace Mi
open PySem PySem.Spec PyProof.Rows L2

/-! ### pure values, heaps, results -/
inductive Pv where
  | non | bl (b : Bool) | int (i : Int) | str (x : Str) | ty (n : String) | ref (a : Nat) | scr (ns : List Int) | tup (xs : List Pv)
inductive Ob where
  | lst (xs : List Pv) | dct (kvs : List (Key × Pv)) | ins (c : Nat) (fs : List (Str × Pv))
abbrev Hh := List Ob
abbrev Sg := List (Option Pv)
inductive Rs (α : Type) where
  | ok (a : α) (h : Hh)
  | ex (c : Nat) (fs : List (Str × Pv)) (h : Hh)
  | bad
inductive Fl where
  | nx (σ : Sg) | rt (v : Pv) | bk (σ : Sg) | ct (σ : Sg) | xc (σ : Sg) (c : Nat) (fs : List (Str × Pv))
def Rs.bind {α β : Type} (r : Rs α) (f : α → Hh → Rs β) : Rs β := match r with
  | .ok a h => f a h
  | .ex c fs h => .ex c fs h
  | .bad => .bad
abbrev EM := Sg → Hh → Rs Pv
abbrev BM := Sg → Hh → Rs Bool
abbrev AM := Sg → Hh → Rs (List Pv)
abbrev SM := Sg → Hh → Rs Fl
def Sat {α : Type} (r : Rs α) (Q : α → Hh → Prop) (E : Nat → List (Str × Pv) → Hh → Prop) : Prop := match r with
  | .ok a h => Q a h
  | .ex c fs h => E c fs h
  | .bad => False
theorem sat_bind {α β : Type} {r : Rs α} {f : α → Hh → Rs β} {Q E} : Sat (r.bind f) Q E ↔ Sat r (fun a h => Sat (f a h) Q E) E := by
  cases r <;> exact Iff.rfl
theorem Sat.mono {α : Type} {r : Rs α} {Q Q' : α → Hh → Prop} {E E' : Nat → List (Str × Pv) → Hh → Prop} (s : Sat r Q E) (h : ∀ a h, Q a h → Q' a h) (g : ∀ c fs h, E c fs h → E' c fs h) : Sat r Q' E' := by
  cases r
  · exact h _ _ s
  · exact g _ _ _ s
  · exact s.elim

/-! ### what stands for what -/
/-- the written part, and the addresses of the classes -/
structure Gm where
  K : PySem.W.Frag
  cA : Nat → Addr
def FrzL (K : PySem.W.Frag) (H : Hp) (p : Addr) (xs : List V) : Prop :=
  (∃ o, H p = some (.frz o (.lst xs))) ∨ ∃ (o : Obj) (its : Array Value) (n : Nat), K.lookup p = some o ∧ o.cls = .type "list" ∧ o.dict = none ∧ o.data = .seq its n ∧ its.size ≤ sizeLine ∧ Vals xs its.toList
theorem FrzL.sq {K : PySem.W.Frag} {H : Hp} {p : Addr} {xs : List V} (h : FrzL K H p xs) : SqL K H p xs := by
  rcases h with ⟨o, h⟩ | h
  · exact .inl (.inr ⟨o, h⟩)
  · exact .inr h
def TupL (K : PySem.W.Frag) (H : Hp) (p : Addr) (xs : List V) : Prop :=
  H p = some (.tup xs) ∨ ∃ (o : Obj) (its : Array Value) (n : Nat), K.lookup p = some o ∧ o.cls = .type "tuple" ∧ o.data = .seq its n ∧ its.size ≤ sizeLine ∧ Vals xs its.toList
theorem TupL.sq {K : PySem.W.Frag} {H : Hp} {p : Addr} {xs : List V} (h : TupL K H p xs) : SqT K H p xs := by
  rcases h with h | h
  · exact .inl (.inl h)
  · exact .inr h
mutual
def RV (G : Gm) (H : Hp) (m : List Addr) : Pv → V → Prop
  | .non, v => v = .non
  | .bl b, v => v = .bl b
  | .int i, v => v = .int i
  | .str x, v => v = .str x
  | .ty n, v => v = .ty n
  | .ref a, v => ∃ p, v = .ref p ∧ m[a]? = some p
  | .scr ns, v => ∃ p, v = .ref p ∧ FrzL G.K H p (ns.map V.int)
  | .tup xs, v => ∃ p ys, v = .ref p ∧ TupL G.K H p ys ∧ RVs G H m xs ys
def RVs (G : Gm) (H : Hp) (m : List Addr) : List Pv → List V → Prop
  | [], ys => ys = []
  | x :: xs, ys => ∃ y zs, ys = y :: zs ∧ RV G H m x y ∧ RVs G H m xs zs
end
structure Gr (G : Gm) (H : Hp) (m : List Addr) (H' : Hp) (m' : List Addr) : Prop where
  ext : ∀ (a : Nat) (p : Addr), m[a]? = some p → m'[a]? = some p
  tup : ∀ p ys, TupL G.K H p ys → TupL G.K H' p ys
  frz : ∀ p ys, FrzL G.K H p ys → FrzL G.K H' p ys
theorem Gr.refl {G : Gm} {H : Hp} {m : List Addr} : Gr G H m H m := ⟨fun _ _ h => h, fun _ _ h => h, fun _ _ h => h⟩
theorem Gr.trans {G : Gm} {H H1 H2 : Hp} {m m1 m2 : List Addr} (a : Gr G H m H1 m1) (b : Gr G H1 m1 H2 m2) : Gr G H m H2 m2 :=
  ⟨fun _ _ h => b.ext _ _ (a.ext _ _ h), fun _ _ h => b.tup _ _ (a.tup _ _ h), fun _ _ h => b.frz _ _ (a.frz _ _ h)⟩
mutual
theorem RV.gr {G : Gm} {H H' : Hp} {m m' : List Addr} (g : Gr G H m H' m') : ∀ (x : Pv) (v : V), RV G H m x v → RV G H' m' x v
  | .non, _, h => h
  | .bl _, _, h => h
  | .int _, _, h => h
  | .str _, _, h => h
  | .ty _, _, h => h
  | .ref a, _, ⟨p, e, q⟩ => ⟨p, e, g.ext _ _ q⟩
  | .scr _, _, ⟨p, e, q⟩ => ⟨p, e, g.frz _ _ q⟩
  | .tup xs, _, ⟨p, ys, e, q, r⟩ => ⟨p, ys, e, g.tup _ _ q, RVs.gr g xs ys r⟩
theorem RVs.gr {G : Gm} {H H' : Hp} {m m' : List Addr} (g : Gr G H m H' m') : ∀ (xs : List Pv) (vs : List V), RVs G H m xs vs → RVs G H' m' xs vs
  | [], _, h => h
  | x :: xs, _, ⟨y, zs, e, r, rs⟩ => ⟨y, zs, e, RV.gr g x y r, RVs.gr g xs zs rs⟩
end
section
variable {G : Gm} {H H' : Hp} {m m' : List Addr}
theorem RVs.length : ∀ {xs : List Pv} {ys : List V}, RVs G H m xs ys → ys.length = xs.length
  | [], _, h => by
    have e : _ = [] := h
    subst e; rfl
  | x :: xs, _, ⟨y, zs, e, _, rs⟩ => by
    subst e
    simp [RVs.length rs]
theorem RVs.get : ∀ {xs : List Pv} {ys : List V} {i : Nat} {x : Pv}, RVs G H m xs ys → xs[i]? = some x → ∃ y, ys[i]? = some y ∧ RV G H m x y
  | [], _, _, _, _, e => by simp at e
  | _ :: _, _, 0, _, ⟨y, zs, e, r, _⟩, q => by
    subst e
    simp at q; subst q
    exact ⟨y, rfl, r⟩
  | _ :: xs, _, i + 1, x, ⟨y, zs, e, _, rs⟩, q => by
    subst e
    obtain ⟨z, h1, h2⟩ := RVs.get (i := i) rs (by simpa using q)
    exact ⟨z, by simpa using h1, h2⟩
theorem RVs.app : ∀ {xs xs' : List Pv} {ys ys' : List V}, RVs G H m xs ys → RVs G H m xs' ys' → RVs G H m (xs ++ xs') (ys ++ ys')
  | [], _, _, _, h, r => by
    have e : _ = [] := h
    subst e; exact r
  | x :: xs, _, _, _, ⟨y, zs, e, r1, rs⟩, r => by
    subst e
    exact ⟨y, zs ++ _, rfl, r1, RVs.app rs r⟩
theorem RVs.one {x : Pv} {y : V} (r : RV G H m x y) : RVs G H m [x] [y] := ⟨y, [], rfl, r, rfl⟩
theorem RVs.take : ∀ {xs : List Pv} {ys : List V} (n : Nat), RVs G H m xs ys → RVs G H m (xs.take n) (ys.take n)
  | _, _, 0, _ => by simp [RVs]
  | [], _, _ + 1, h => by
    have e : _ = [] := h
    subst e; simp [RVs]
  | x :: xs, _, n + 1, ⟨y, zs, e, r, rs⟩ => by
    subst e
    exact ⟨y, zs.take n, rfl, r, RVs.take n rs⟩
theorem RVs.drop : ∀ {xs : List Pv} {ys : List V} (n : Nat), RVs G H m xs ys → RVs G H m (xs.drop n) (ys.drop n)
  | _, _, 0, h => h
  | [], _, _ + 1, h => by
    have e : _ = [] := h
    subst e; simp [RVs]
  | x :: xs, _, n + 1, ⟨y, zs, e, r, rs⟩ => by
    subst e
    exact RVs.drop n rs
theorem RVs.set {x : Pv} {y : V} (r : RV G H m x y) : ∀ {xs : List Pv} {ys : List V} (i : Nat), RVs G H m xs ys → RVs G H m (xs.set i x) (ys.set i y)
  | [], _, _, h => by
    have e : _ = [] := h
    subst e; simp [RVs]
  | _ :: xs, _, 0, ⟨z, zs, e, _, rs⟩ => by
    subst e
    exact ⟨y, zs, rfl, r, rs⟩
  | _ :: xs, _, i + 1, ⟨z, zs, e, r1, rs⟩ => by
    subst e
    exact ⟨z, zs.set i y, rfl, r1, RVs.set r i rs⟩
theorem RVs.eraseIdx : ∀ {xs : List Pv} {ys : List V} (i : Nat), RVs G H m xs ys → RVs G H m (xs.eraseIdx i) (ys.eraseIdx i)
  | [], _, _, h => by
    have e : _ = [] := h
    subst e; simp [RVs]
  | _ :: xs, _, 0, ⟨z, zs, e, _, rs⟩ => by
    subst e
    exact rs
  | _ :: xs, _, i + 1, ⟨z, zs, e, r1, rs⟩ => by
    subst e
    exact ⟨z, zs.eraseIdx i, rfl, r1, RVs.eraseIdx i rs⟩
theorem RVs.reverse : ∀ {xs : List Pv} {ys : List V}, RVs G H m xs ys → RVs G H m xs.reverse ys.reverse
  | [], _, h => by
    have e : _ = [] := h
    subst e; simp [RVs]
  | x :: xs, _, ⟨y, zs, e, r, rs⟩ => by
    subst e
    rw [List.reverse_cons, List.reverse_cons]
    exact RVs.app (RVs.reverse rs) (RVs.one r)
/-- key-value pairs (dicts, fields) -/
def RKs {κ : Type} (G : Gm) (H : Hp) (m : List Addr) (kvs : List (κ × Pv)) (ws : List (κ × V)) : Prop := ws.map (·.1) = kvs.map (·.1) ∧ RVs G H m (kvs.map (·.2)) (ws.map (·.2))
theorem RKs.gr {κ : Type} {kvs : List (κ × Pv)} {ws : List (κ × V)} (g : Gr G H m H' m') (h : RKs G H m kvs ws) : RKs G H' m' kvs ws := ⟨h.1, RVs.gr g _ _ h.2⟩
def OR (G : Gm) (H : Hp) (m : List Addr) : Ob → Addr → Prop
  | .lst xs, p => ∃ ys, H p = some (.lst ys) ∧ RVs G H m xs ys
  | .dct kvs, p => ∃ ws, H p = some (.dK ws) ∧ RKs G H m kvs ws
  | .ins c fs, p => ∃ dx ws, H p = some (.ins (G.cA c) dx ws) ∧ RKs G H m fs ws
/-- what is tracked as an object of ours -/
def mutO : Option HO → Bool
  | some (.lst _) => true
  | some (.dK _) => true
  | some (.ins _ _ _) => true
  | _ => false
theorem OR.mut {o : Ob} {p : Addr} (h : OR G H m o p) : mutO (H p) = true := by
  cases o with
  | lst xs => obtain ⟨ys, e, _⟩ := h; rw [e]; rfl
  | dct xs => obtain ⟨ys, e, _⟩ := h; rw [e]; rfl
  | ins c fs => obtain ⟨dx, ys, e, _⟩ := h; rw [e]; rfl
structure HR (G : Gm) (H : Hp) (m : List Addr) (h : Hh) : Prop where
  len : m.length = h.length
  nd : ∀ (i j : Nat) (p : Addr), m[i]? = some p → m[j]? = some p → i = j
  at' : ∀ (i : Nat) (o : Ob) (p : Addr), h[i]? = some o → m[i]? = some p → OR G H m o p
theorem HR.get {h : Hh} (r : HR G H m h) {i : Nat} {o : Ob} (e : h[i]? = some o) : ∃ p, m[i]? = some p ∧ OR G H m o p := by
  have hi : i < h.length := (List.getElem?_eq_some_iff.mp e).1
  have hm : i < m.length := by rw [r.len]; exact hi
  exact ⟨m[i], List.getElem?_eq_getElem hm, r.at' i o _ e (List.getElem?_eq_getElem hm)⟩
/-- a tuple's, a frozen list's place is none of ours -/
theorem sqT_upd {K : PySem.W.Frag} {p q : Addr} {o : HO} {ys : List V} (h : TupL K H q ys) (hp : H p = none ∨ mutO (H p) = true) : TupL K (upd H p o) q ys := by
  rcases h with h | h
  · have ne : q ≠ p := by
      intro e; subst e
      rw [h] at hp; simp [mutO] at hp
    exact .inl (by rw [upd_ne ne]; exact h)
  · exact .inr h
theorem frzL_upd {K : PySem.W.Frag} {p q : Addr} {o : HO} {ys : List V} (h : FrzL K H q ys) (hp : H p = none ∨ mutO (H p) = true) : FrzL K (upd H p o) q ys := by
  rcases h with ⟨ob, h⟩ | h
  · have ne : q ≠ p := by
      intro e; subst e
      rw [h] at hp; simp [mutO] at hp
    exact .inl ⟨ob, by rw [upd_ne ne]; exact h⟩
  · exact .inr h
theorem Gr.upd {p : Addr} {o : HO} (hp : H p = none ∨ mutO (H p) = true) : Gr G H m (upd H p o) m := ⟨fun _ _ h => h, fun _ _ h => sqT_upd h hp, fun _ _ h => frzL_upd h hp⟩
theorem OR.upd {o : Ob} {p q : Addr} {u : HO} (h : OR G H m o q) (hp : H p = none ∨ mutO (H p) = true) (ne : q ≠ p) (g : Gr G H m (L2.upd H p u) m') : OR G (L2.upd H p u) m' o q := by
  cases o with
  | lst xs => obtain ⟨ys, e, r⟩ := h; exact ⟨ys, by rw [upd_ne ne]; exact e, RVs.gr g _ _ r⟩
  | dct xs => obtain ⟨ys, e, r⟩ := h; exact ⟨ys, by rw [upd_ne ne]; exact e, r.gr g⟩
  | ins c fs => obtain ⟨dx, ys, e, r⟩ := h; exact ⟨dx, ys, by rw [upd_ne ne]; exact e, r.gr g⟩
/-- a new object -/
theorem HR.new {h : Hh} {p : Addr} {o : Ob} {u : HO} (r : HR G H m h) (np : H p = none) (hn : OR G (L2.upd H p u) (m ++ [p]) o p) : HR G (L2.upd H p u) (m ++ [p]) (h ++ [o]) ∧ Gr G H m (L2.upd H p u) (m ++ [p]) := by
  have g : Gr G H m (L2.upd H p u) (m ++ [p]) := by
    refine ⟨fun a q e => ?_, fun _ _ h => sqT_upd h (.inl np), fun _ _ h => frzL_upd h (.inl np)⟩
    rw [List.getElem?_append_left (List.getElem?_eq_some_iff.mp e).1]; exact e
  have notin : ∀ (i : Nat), m[i]? ≠ some p := fun i e => by
    have hi : i < h.length := by rw [← r.len]; exact (List.getElem?_eq_some_iff.mp e).1
    have := (r.at' i _ p (List.getElem?_eq_getElem hi) e).mut
    rw [np] at this; simp [mutO] at this
  refine ⟨⟨by simp [r.len], fun i j q e1 e2 => ?_, fun i ob q e1 e2 => ?_⟩, g⟩
  · rw [List.getElem?_append] at e1 e2
    split at e1
    · split at e2
      · exact r.nd i j q e1 e2
      · rename_i h1 h2
        have : j - m.length = 0 := by
          have := (List.getElem?_eq_some_iff.mp e2).1
          simp at this; omega
        rw [this] at e2
        simp at e2; subst e2
        exact absurd e1 (notin i)
    · split at e2
      · rename_i h1 h2
        have : i - m.length = 0 := by
          have := (List.getElem?_eq_some_iff.mp e1).1
          simp at this; omega
        rw [this] at e1
        simp at e1; subst e1
        exact absurd e2 (notin j)
      · rename_i h1 h2
        have := (List.getElem?_eq_some_iff.mp e1).1
        have := (List.getElem?_eq_some_iff.mp e2).1
        simp at *; omega
  · rw [List.getElem?_append] at e1 e2
    split at e1
    · rename_i h1
      rw [if_pos (by rw [r.len]; exact h1)] at e2
      refine (r.at' i ob q e1 e2).upd (.inl np) ?_ g
      intro z; subst z; exact notin i e2
    · rename_i h1
      rw [if_neg (by rw [r.len]; exact h1)] at e2
      rw [r.len] at e2
      have : i - h.length = 0 := by
        have := (List.getElem?_eq_some_iff.mp e1).1
        simp at this; omega
      rw [this] at e1 e2
      simp at e1 e2
      subst e1; subst e2
      exact hn
/-- an object changed -/
theorem HR.put {h : Hh} {p : Addr} {a : Nat} {o : Ob} {u : HO} (r : HR G H m h) (ha : m[a]? = some p) (hm : mutO (H p) = true) (hn : OR G (L2.upd H p u) m o p) : HR G (L2.upd H p u) m (h.set a o) ∧ Gr G H m (L2.upd H p u) m := by
  have g : Gr G H m (L2.upd H p u) m := Gr.upd (.inr hm)
  refine ⟨⟨by simp [r.len], r.nd, fun i ob q e1 e2 => ?_⟩, g⟩
  by_cases hi : i = a
  · subst hi
    rw [ha] at e2; cases e2
    have hi : i < h.length := by rw [← r.len]; exact (List.getElem?_eq_some_iff.mp ha).1
    rw [List.getElem?_set_self hi] at e1; cases e1
    exact hn
  · rw [List.getElem?_set_ne (Ne.symm hi)] at e1
    refine (r.at' i ob q e1 e2).upd (.inr hm) ?_ g
    intro z; subst z; exact hi (r.nd i a q e2 ha)
/-- slots -/
structure SR (G : Gm) (H : Hp) (m : List Addr) (σ : Sg) (σ' : L2.St) : Prop where
  len : σ.length = σ'.length
  at' : ∀ (i : Nat) (x : Pv), σ[i]? = some (some x) → ∃ y, σ'[i]? = some (some y) ∧ RV G H m x y
theorem SR.gr {σ : Sg} {σ' : L2.St} (s : SR G H m σ σ') (g : Gr G H m H' m') : SR G H' m' σ σ' := ⟨s.len, fun i x e => let ⟨y, h1, h2⟩ := s.at' i x e; ⟨y, h1, RV.gr g _ _ h2⟩⟩
theorem SR.set {σ : Sg} {σ' : L2.St} {x : Pv} {y : V} (s : SR G H m σ σ') (i : Nat) (r : RV G H m x y) : SR G H m (σ.set i (some x)) (σ'.set i (some y)) := by
  refine ⟨by simp [s.len], fun j z e => ?_⟩
  by_cases hj : i = j
  · subst hj
    have hi : i < σ.length := by
      have := (List.getElem?_eq_some_iff.mp e).1
      simpa using this
    rw [List.getElem?_set_self hi] at e
    have e' : x = z := Option.some.inj (Option.some.inj e)
    subst e'
    exact ⟨y, List.getElem?_set_self (by rw [← s.len]; exact hi), r⟩
  · rw [List.getElem?_set_ne hj] at e
    obtain ⟨w, h1, h2⟩ := s.at' j z e
    exact ⟨w, by rw [List.getElem?_set_ne hj]; exact h1, h2⟩
structure Rel (G : Gm) (H : Hp) (m : List Addr) (h : Hh) (σ : Sg) (σ' : L2.St) : Prop where
  hr : HR G H m h
  sr : SR G H m σ σ'
theorem Rel.gr {h h' : Hh} {σ : Sg} {σ' : L2.St} (r : Rel G H m h σ σ') (g : Gr G H m H' m') (q : HR G H' m' h') : Rel G H' m' h' σ σ' := ⟨q, r.sr.gr g⟩
end
/-- an exception that flies -/
def XR (G : Gm) (H : Hp) (m : List Addr) (c : Nat) (fs : List (Str × Pv)) (cls : Value) (d : Option Addr) : Prop :=
  cls = .ref (G.cA c) ∧ ((fs = [] ∧ d = none) ∨ ∃ p ws, d = some p ∧ H p = some (.xd ws) ∧ RKs G H m fs ws)
abbrev WX' := Value → Option Addr → L2.St → Hp → Prop
def EX (G : Gm) (W : WX') (H : Hp) (m : List Addr) (σ' : L2.St) : Nat → List (Str × Pv) → Hh → Prop := fun c fs h' =>
  ∀ m' H' cls d, Gr G H m H' m' → HR G H' m' h' → XR G H' m' c fs cls d → W cls d σ' H'
theorem EX.gr {G : Gm} {W : WX'} {H H1 : Hp} {m m1 : List Addr} {σ' : L2.St} {c : Nat} {fs : List (Str × Pv)} {h : Hh} (e : EX G W H m σ' c fs h) (g : Gr G H m H1 m1) : EX G W H1 m1 σ' c fs h := fun m' H' cls d g' r x => e m' H' cls d (g.trans g') r x
/-- an expression's reading -/
def tE (G : Gm) (W : WX') (c : EM) : TE := fun σ' H Q => ∃ m σ h, Rel G H m h σ σ' ∧
  Sat (c σ h) (fun v h' => ∀ m' H' v', Gr G H m H' m' → HR G H' m' h' → RV G H' m' v v' → Q v' H') (EX G W H m σ')
def tB (G : Gm) (W : WX') (c : BM) : TT := fun σ' H Q => ∃ m σ h, Rel G H m h σ σ' ∧
  Sat (c σ h) (fun v h' => ∀ m' H', Gr G H m H' m' → HR G H' m' h' → Q v H') (EX G W H m σ')
def tA (G : Gm) (W : WX') (c : AM) : TA := fun σ' H Q => ∃ m σ h, Rel G H m h σ σ' ∧
  Sat (c σ h) (fun v h' => ∀ m' H' v', Gr G H m H' m' → HR G H' m' h' → RVs G H' m' v v' → Q v' H') (EX G W H m σ')
def FlR (G : Gm) (W : WX') (H' : Hp) (m' : List Addr) (D : Ends) : Fl → Prop
  | .nx σ => ∀ σ', SR G H' m' σ σ' → D.nx σ' H'
  | .rt v => ∀ v', RV G H' m' v v' → D.rt v' H'
  | .bk σ => ∀ σ', SR G H' m' σ σ' → D.bk σ' H'
  | .ct σ => ∀ σ', SR G H' m' σ σ' → D.ct σ' H'
  | .xc σ c fs => ∀ σ' cls d, SR G H' m' σ σ' → XR G H' m' c fs cls d → W cls d σ' H'
def tS (G : Gm) (W : WX') (c : SM) : TS := fun D σ' H => ∃ m σ h, Rel G H m h σ σ' ∧
  Sat (c σ h) (fun f h' => ∀ m' H', Gr G H m H' m' → HR G H' m' h' → FlR G W H' m' D f) (fun _ _ _ => False)
/-- the judgements -/
abbrev ME (G : Gm) (X : Cx) (W : WX') (e : Expr) (c : EM) : Prop := PE X e (tE G W c)
abbrev MB (G : Gm) (X : Cx) (W : WX') (e : Expr) (c : BM) : Prop := PT X e (tB G W c)
abbrev MA (G : Gm) (X : Cx) (W : WX') (es : List Expr) (c : AM) : Prop := PA X es (tA G W c)
abbrev MS (G : Gm) (X : Cx) (W : WX') (s : Stmt) (c : SM) : Prop := PS X s (tS G W c)
abbrev MSs (G : Gm) (X : Cx) (W : WX') (s : List Stmt) (c : SM) : Prop := PSs X s (tS G W c)
section
variable {X : Cx}
theorem PE.weak {e : Expr} {t t' : TE} (h : PE X e t) (w : ∀ σ H Q, t' σ H Q → t σ H Q) : PE X e t' := ⟨fun pins s σ H Q I q => h.run pins s σ H Q I (w σ H Q q)⟩
theorem PT.weak {e : Expr} {t t' : TT} (h : PT X e t) (w : ∀ σ H Q, t' σ H Q → t σ H Q) : PT X e t' := ⟨fun pins s σ H Q I q => h.run pins s σ H Q I (w σ H Q q)⟩
theorem PW.weak {e : Expr} {t t' : TT} (h : PW X e t) (w : ∀ σ H Q, t' σ H Q → t σ H Q) : PW X e t' := ⟨fun wh pins s σ H Q I q => h.run wh pins s σ H Q I (w σ H Q q)⟩
theorem PA.weak {e : List Expr} {t t' : TA} (h : PA X e t) (w : ∀ σ H Q, t' σ H Q → t σ H Q) : PA X e t' := ⟨fun pos pins s σ H Q I q => h.run pos pins s σ H Q I (w σ H Q q)⟩
theorem PS.weak {e : Stmt} {t t' : TS} (h : PS X e t) (w : ∀ D σ H, t' D σ H → t D σ H) : PS X e t' := ⟨fun pins s σ H D I q => h.run pins s σ H D I (w D σ H q)⟩
theorem PSs.weak {e : List Stmt} {t t' : TS} (h : PSs X e t) (w : ∀ D σ H, t' D σ H → t D σ H) : PSs X e t' := ⟨fun pins s σ H D I q => h.run pins s σ H D I (w D σ H q)⟩
end
section
variable {G : Gm} {W : WX'} {H : Hp} {m : List Addr} {h : Hh} {σ : Sg} {σ' : L2.St}
/-- an expression's reading, from what its meaning does -/
theorem tE.of {c : EM} {Q : VK} {P : Pv → Hh → Prop} {E : Nat → List (Str × Pv) → Hh → Prop} (r : Rel G H m h σ σ') (s : Sat (c σ h) P E) (he : ∀ c fs h, E c fs h → EX G W H m σ' c fs h)
    (k : ∀ v h' m' H' v', P v h' → Gr G H m H' m' → Rel G H' m' h' σ σ' → RV G H' m' v v' → Q v' H') : tE G W c σ' H Q :=
  ⟨m, σ, h, r, s.mono (fun v h' p m' H' v' g q rv => k v h' m' H' v' p g (r.gr g q) rv) he⟩
theorem tB.of {c : BM} {Q : Bool → Hp → Prop} {P : Bool → Hh → Prop} {E : Nat → List (Str × Pv) → Hh → Prop} (r : Rel G H m h σ σ') (s : Sat (c σ h) P E) (he : ∀ c fs h, E c fs h → EX G W H m σ' c fs h)
    (k : ∀ v h' m' H', P v h' → Gr G H m H' m' → Rel G H' m' h' σ σ' → Q v H') : tB G W c σ' H Q :=
  ⟨m, σ, h, r, s.mono (fun v h' p m' H' g q => k v h' m' H' p g (r.gr g q)) he⟩
theorem tA.of {c : AM} {Q : List V → Hp → Prop} {P : List Pv → Hh → Prop} {E : Nat → List (Str × Pv) → Hh → Prop} (r : Rel G H m h σ σ') (s : Sat (c σ h) P E) (he : ∀ c fs h, E c fs h → EX G W H m σ' c fs h)
    (k : ∀ v h' m' H' v', P v h' → Gr G H m H' m' → Rel G H' m' h' σ σ' → RVs G H' m' v v' → Q v' H') : tA G W c σ' H Q :=
  ⟨m, σ, h, r, s.mono (fun v h' p m' H' v' g q rv => k v h' m' H' v' p g (r.gr g q) rv) he⟩
end
end Mi
namespace Mi
open PySem PySem.Spec PyProof.Rows L2
theorem lim_ok {n : Nat} (h : n ≤ 1000000) : n ≤ sizeLine := Nat.le_trans h (by decide)
theorem lim_lt {n : Nat} (h : n < 1000000) : n < sizeLine := Nat.lt_trans h (by decide)
section
variable {G : Gm} {W : WX'} {H : Hp} {m : List Addr} {h : Hh} {σ : Sg} {σ' : L2.St}
/-! ### heaps: a list made, changed; a tuple made -/
theorem newL {p : Addr} {xs : List Pv} {ys : List V} (r : HR G H m h) (rs : RVs G H m xs ys) (np : H p = none) :
    HR G (upd H p (.lst ys)) (m ++ [p]) (h ++ [.lst xs]) ∧ Gr G H m (upd H p (.lst ys)) (m ++ [p]) ∧ RV G (upd H p (.lst ys)) (m ++ [p]) (.ref h.length) (.ref p) := by
  have g : Gr G H m (upd H p (.lst ys)) (m ++ [p]) := by
    refine ⟨fun a q e => ?_, fun _ _ h => sqT_upd h (.inl np), fun _ _ h => frzL_upd h (.inl np)⟩
    rw [List.getElem?_append_left (List.getElem?_eq_some_iff.mp e).1]; exact e
  obtain ⟨a, b⟩ := r.new (u := .lst ys) (o := .lst xs) np ⟨ys, upd_same, RVs.gr g _ _ rs⟩
  refine ⟨a, b, p, rfl, ?_⟩
  rw [← r.len]; simp
theorem newD {p : Addr} {xs : List (Key × Pv)} {ys : List (Key × V)} (r : HR G H m h) (rs : RKs G H m xs ys) (np : H p = none) :
    HR G (upd H p (.dK ys)) (m ++ [p]) (h ++ [.dct xs]) ∧ Gr G H m (upd H p (.dK ys)) (m ++ [p]) ∧ RV G (upd H p (.dK ys)) (m ++ [p]) (.ref h.length) (.ref p) := by
  have g : Gr G H m (upd H p (.dK ys)) (m ++ [p]) := by
    refine ⟨fun a q e => ?_, fun _ _ h => sqT_upd h (.inl np), fun _ _ h => frzL_upd h (.inl np)⟩
    rw [List.getElem?_append_left (List.getElem?_eq_some_iff.mp e).1]; exact e
  obtain ⟨a, b⟩ := r.new (u := .dK ys) (o := .dct xs) np ⟨ys, upd_same, rs.gr g⟩
  refine ⟨a, b, p, rfl, ?_⟩
  rw [← r.len]; simp
theorem putL {p : Addr} {a : Nat} {xs xs' : List Pv} {ys' : List V} (r : HR G H m h) (ea : h[a]? = some (.lst xs)) (ha : m[a]? = some p) (rs : RVs G H m xs' ys') :
    HR G (upd H p (.lst ys')) m (h.set a (.lst xs')) ∧ Gr G H m (upd H p (.lst ys')) m := by
  have hm : mutO (H p) = true := (r.at' a _ p ea ha).mut
  exact r.put ha hm ⟨ys', upd_same, RVs.gr (Gr.upd (.inr hm)) _ _ rs⟩
theorem putD {p : Addr} {a : Nat} {xs xs' : List (Key × Pv)} {ys' : List (Key × V)} (r : HR G H m h) (ea : h[a]? = some (.dct xs)) (ha : m[a]? = some p) (rs : RKs G H m xs' ys') :
    HR G (upd H p (.dK ys')) m (h.set a (.dct xs')) ∧ Gr G H m (upd H p (.dK ys')) m := by
  have hm : mutO (H p) = true := (r.at' a _ p ea ha).mut
  exact r.put ha hm ⟨ys', upd_same, rs.gr (Gr.upd (.inr hm))⟩
theorem HR.other {u : HO} {p : Addr} (r : HR G H m h) (np : H p = none) : HR G (upd H p u) m h ∧ Gr G H m (upd H p u) m := by
  have g : Gr G H m (upd H p u) m := Gr.upd (.inl np)
  refine ⟨⟨r.len, r.nd, fun i o q e1 e2 => ?_⟩, g⟩
  have x := r.at' i o q e1 e2
  refine x.upd (.inl np) ?_ g
  intro z; subst z
  have := x.mut
  rw [np] at this; simp [mutO] at this
theorem newT {p : Addr} {xs : List Pv} {ys : List V} (r : HR G H m h) (rs : RVs G H m xs ys) (np : H p = none) :
    HR G (upd H p (.tup ys)) m h ∧ Gr G H m (upd H p (.tup ys)) m ∧ RV G (upd H p (.tup ys)) m (.tup xs) (.ref p) := by
  obtain ⟨a, g⟩ := r.other (u := .tup ys) np
  exact ⟨a, g, p, ys, rfl, .inl upd_same, RVs.gr g _ _ rs⟩
/-- a list of ours, as it is read -/
theorem HR.lst {a : Nat} {xs : List Pv} (r : HR G H m h) (e : h[a]? = some (.lst xs)) : ∃ p ys, m[a]? = some p ∧ H p = some (.lst ys) ∧ RVs G H m xs ys := by
  obtain ⟨p, e1, ys, e2, e3⟩ := r.get e
  exact ⟨p, ys, e1, e2, e3⟩
theorem HR.dct {a : Nat} {xs : List (Key × Pv)} (r : HR G H m h) (e : h[a]? = some (.dct xs)) : ∃ p ys, m[a]? = some p ∧ H p = some (.dK ys) ∧ RKs G H m xs ys := by
  obtain ⟨p, e1, ys, e2, e3⟩ := r.get e
  exact ⟨p, ys, e1, e2, e3⟩
theorem RV.refp {a : Nat} {v : V} {p : Addr} (r : RV G H m (.ref a) v) (e : m[a]? = some p) : v = .ref p := by
  obtain ⟨q, e1, e2⟩ := r
  rw [e] at e2; cases e2; exact e1
end

/-! ### names and constants -/
def eVar (i : Nat) : EM := fun σ h => match σ[i]? with
  | some (some v) => .ok v h
  | _ => .bad
def eC (v : Pv) : EM := fun _ h => .ok v h
section
variable {G : Gm} {W : WX'} {X : Cx} {pos : Pos}
theorem me_pv {e : Expr} {i : Nat} (h : PE X e (tVar i)) : ME G X W e (eVar i) := by
  refine PE.weak h fun σ' H Q q => ?_
  obtain ⟨m, σ, h, r, s⟩ := q
  unfold eVar at s
  split at s
  · rename_i v e
    obtain ⟨y, e1, rv⟩ := r.sr.at' i v e
    exact ⟨y, e1, s m H y Gr.refl r.hr rv⟩
  · exact s.elim
theorem me_const {e : Expr} {v : Pv} {u : V} (h : PE X e (tC u)) (r : ∀ H m, RV G H m v u) : ME G X W e (eC v) := by
  refine PE.weak h fun σ' H Q q => ?_
  obtain ⟨m, σ, h, rl, s⟩ := q
  exact s m H u Gr.refl rl.hr (r H m)
theorem me_int {i : Int} {j : Nat} : ME G X W (.Constant (.int i) j pos) (eC (.int i)) := me_const pe_int fun _ _ => rfl
theorem me_bl {b : Bool} {j : Nat} : ME G X W (.Constant (.bool b) j pos) (eC (.bl b)) := me_const pe_bl fun _ _ => rfl
theorem me_non {j : Nat} : ME G X W (.Constant .none j pos) (eC .non) := me_const pe_non fun _ _ => rfl
theorem me_str {x : Str} {j : Nat} : ME G X W (.Constant (.str x) j pos) (eC (.str x)) := me_const pe_str fun _ _ => rfl
end

/-! ### operations by values -/
def Rs.of {α : Type} (o : Option (α × Hh)) : Rs α := match o with
  | some (v, h) => .ok v h
  | none => .bad
abbrev OM := Pv → Pv → Hh → Option (Pv × Hh)
/-- what is wanted of a value's meaning -/
def Wnt (G : Gm) (H : Hp) (m : List Addr) (r : Option (Pv × Hh)) (Q : VK) : Prop := match r with
  | some (v, h') => ∀ m' H' v', Gr G H m H' m' → HR G H' m' h' → RV G H' m' v v' → Q v' H'
  | none => False
def rO (G : Gm) (o : OM) : R2 := fun x' y' H Q => ∃ m h x y, HR G H m h ∧ RV G H m x x' ∧ RV G H m y y' ∧ Wnt G H m (o x y h) Q
abbrev UM := Pv → Hh → Option (Pv × Hh)
def rU1 (G : Gm) (o : UM) : V → Hp → VK → Prop := fun x' H Q => ∃ m h x, HR G H m h ∧ RV G H m x x' ∧ Wnt G H m (o x h) Q
abbrev LM := List Pv → Hh → Option (Pv × Hh)
def rL (G : Gm) (o : LM) : List V → Hp → VK → Prop := fun xs' H Q => ∃ m h xs, HR G H m h ∧ RVs G H m xs xs' ∧ Wnt G H m (o xs h) Q
abbrev ML := Pv → List Pv → Hh → Option (Pv × Hh)
def rM (G : Gm) (o : ML) : V → List V → Hp → VK → Prop := fun x' xs' H Q => ∃ m h x xs, HR G H m h ∧ RV G H m x x' ∧ RVs G H m xs xs' ∧ Wnt G H m (o x xs h) Q
def e2 (o : OM) (a b : EM) : EM := fun σ h => (a σ h).bind fun x h1 => (b σ h1).bind fun y h2 => Rs.of (o x y h2)
def e1 (o : UM) (a : EM) : EM := fun σ h => (a σ h).bind fun x h1 => Rs.of (o x h1)
def eL (o : LM) (a : AM) : EM := fun σ h => (a σ h).bind fun x h1 => Rs.of (o x h1)
def aNil : AM := fun _ h => .ok [] h
def aCons (a : EM) (r : AM) : AM := fun σ h => (a σ h).bind fun x h1 => (r σ h1).bind fun xs h2 => .ok (x :: xs) h2
def bT (a : EM) : BM := fun σ h => (a σ h).bind fun x h1 => match x with
  | .bl b => .ok b h1
  | _ => .bad
section
variable {G : Gm} {W : WX'} {X : Cx} {a b c e : Expr} {ca cb cc : EM} {pos : Pos}
theorem sat_of {α : Type} {o : Option (α × Hh)} {Q : α → Hh → Prop} {E : Nat → List (Str × Pv) → Hh → Prop} : Sat (Rs.of o) Q E ↔ match o with | some (v, h) => Q v h | none => False := by
  cases o <;> exact Iff.rfl
theorem wnt_of {H : Hp} {m : List Addr} {σ' : L2.St} {o : Option (Pv × Hh)} {Q : VK} (s : Sat (Rs.of o) (fun v h' => ∀ m' H' v', Gr G H m H' m' → HR G H' m' h' → RV G H' m' v v' → Q v' H') (EX G W H m σ')) : Wnt G H m o Q := by
  cases o with
  | none => exact s
  | some p => exact s
theorem Wnt.gr {H H1 : Hp} {m m1 : List Addr} {o : Option (Pv × Hh)} {Q : VK} (w : Wnt G H m o Q) (g : Gr G H m H1 m1) : Wnt G H1 m1 o Q := by
  cases o with
  | none => exact w
  | some p => exact fun m' H' v' g' r v => w m' H' v' (g.trans g') r v
/-- two in a row -/
theorem two_in {H : Hp} {σ' : L2.St} {m : List Addr} {σ : Sg} {h : Hh} {o : OM} {Q : VK} (r : Rel G H m h σ σ')
    (s : Sat (e2 o ca cb σ h) (fun v h' => ∀ m' H' v', Gr G H m H' m' → HR G H' m' h' → RV G H' m' v v' → Q v' H') (EX G W H m σ')) :
    tE G W ca σ' H fun x' H1 => tE G W cb σ' H1 fun y' H2 => rO G o x' y' H2 Q := by
  unfold e2 at s
  rw [sat_bind] at s
  refine tE.of r s (fun _ _ _ e => e) fun x h1 m1 H1 x' s1 g1 r1 rx => ?_
  rw [sat_bind] at s1
  refine tE.of r1 s1 (fun _ _ _ e => e.gr g1) fun y h2 m2 H2 y' s2 g2 r2 ry => ?_
  exact ⟨m2, h2, x, y, r2.hr, RV.gr g2 _ _ rx, ry, (wnt_of s2).gr (g1.trans g2)⟩
theorem one_in {H : Hp} {σ' : L2.St} {m : List Addr} {σ : Sg} {h : Hh} {o : UM} {Q : VK} (r : Rel G H m h σ σ')
    (s : Sat (e1 o ca σ h) (fun v h' => ∀ m' H' v', Gr G H m H' m' → HR G H' m' h' → RV G H' m' v v' → Q v' H') (EX G W H m σ')) :
    tE G W ca σ' H fun x' H1 => rU1 G o x' H1 Q := by
  unfold e1 at s
  rw [sat_bind] at s
  refine tE.of r s (fun _ _ _ e => e) fun x h1 m1 H1 x' s1 g1 r1 rx => ?_
  exact ⟨m1, h1, x, r1.hr, rx, (wnt_of s1).gr g1⟩
theorem args_in {H : Hp} {σ' : L2.St} {m : List Addr} {σ : Sg} {h : Hh} {o : LM} {Q : VK} {ca : AM} (r : Rel G H m h σ σ')
    (s : Sat (eL o ca σ h) (fun v h' => ∀ m' H' v', Gr G H m H' m' → HR G H' m' h' → RV G H' m' v v' → Q v' H') (EX G W H m σ')) :
    tA G W ca σ' H fun x' H1 => rL G o x' H1 Q := by
  unfold eL at s
  rw [sat_bind] at s
  refine tA.of r s (fun _ _ _ e => e) fun x h1 m1 H1 x' s1 g1 r1 rx => ?_
  exact ⟨m1, h1, x, r1.hr, rx, (wnt_of s1).gr g1⟩
theorem me_op {op : Operator} {o : OM} (ho : OpR X (binaryOp op) (rO G o)) (ha : ME G X W a ca) (hb : ME G X W b cb) : ME G X W (.BinOp a op b pos) (e2 o ca cb) :=
  PE.weak (pe_op ho ha hb) fun σ' H Q q => by
    obtain ⟨m, σ, h, r, s⟩ := q
    exact two_in r s
theorem me_cmp {op : CmpOp} {o : OM} (ho : OpR X (compareOp op) (rO G o)) (ha : ME G X W a ca) (hb : ME G X W b cb) (hm : behindInMarks op b = false) : ME G X W (.Compare a [op] [b] pos) (e2 o ca cb) :=
  PE.weak (pe_cmpR ho ha hb hm) fun σ' H Q q => by
    obtain ⟨m, σ, h, r, s⟩ := q
    exact two_in r s
theorem me_un {op : UnaryOp} {o : UM} (ho : UnR X (unaryOp op) (rU1 G o)) (ha : ME G X W a ca) : ME G X W (.UnaryOp op a pos) (e1 o ca) :=
  PE.weak (pe_un ho ha) fun σ' H Q q => by
    obtain ⟨m, σ, h, r, s⟩ := q
    exact one_in r s
/-- a bool as a test -/
theorem tE_bool {H : Hp} {σ' : L2.St} {c : EM} {Q : Bool → Hp → Prop} (q : tB G W (bT c) σ' H Q) : tE G W c σ' H fun x H' => ∃ k, x = .bl k ∧ Q k H' := by
  obtain ⟨m, σ, h, r, s⟩ := q
  unfold bT at s
  rw [sat_bind] at s
  refine tE.of r s (fun _ _ _ e => e) fun x h1 m1 H1 x' s1 g1 r1 rx => ?_
  cases x with
  | bl k => exact ⟨k, rx, s1 m1 H1 g1 r1.hr⟩
  | _ => exact s1.elim
theorem mb_cmp {op : CmpOp} {o : OM} (ho : OpR X (compareOp op) (rO G o)) (ha : ME G X W a ca) (hb : ME G X W b cb) (hm : behindInMarks op b = false) : MB G X W (.Compare a [op] [b] pos) (bT (e2 o ca cb)) :=
  PT.weak (pt_cmpR ho ha hb hm) fun σ' H Q q => by
    have q' := tE_bool q
    obtain ⟨m, σ, h, r, s⟩ := q'
    exact two_in r s
/-- any value's truth, where it is a bool -/
theorem mb_of (ha : ME G X W a ca) (he : ∀ whole, isTrue a X.env whole = (do let v ← whole; standAt a.pos; holding [v] (truthy v)) := by intro _; rfl) : MB G X W a (bT ca) :=
  PT.weak (pt_truth ha he) fun σ' H Q q => by
    have q' := tE_bool q
    obtain ⟨m, σ, h, r, s⟩ := q'
    refine ⟨m, σ, h, r, s.mono (fun v h' z m' H' v' g r rv => ?_) fun _ _ _ e => e⟩
    obtain ⟨k, e, w⟩ := z m' H' v' g r rv
    subst e
    exact ⟨k, rfl, w⟩
def bAnd (a b : BM) : BM := fun σ h => (a σ h).bind fun x h1 => if x then b σ h1 else .ok false h1
def bOr (a b : BM) : BM := fun σ h => (a σ h).bind fun x h1 => if x then .ok true h1 else b σ h1
def bNot (a : BM) : BM := fun σ h => (a σ h).bind fun x h1 => .ok (!x) h1
def eAnd (a b : EM) : EM := fun σ h => (a σ h).bind fun x h1 => match x with
  | .bl true => b σ h1
  | .bl false => .ok (.bl false) h1
  | _ => .bad
def eOr (a b : EM) : EM := fun σ h => (a σ h).bind fun x h1 => match x with
  | .bl true => .ok (.bl true) h1
  | .bl false => b σ h1
  | _ => .bad
def notO : UM := fun x h => match x with
  | .bl b => some (.bl (!b), h)
  | _ => none
def eNot (a : EM) : EM := e1 notO a
def eIf (c : BM) (a b : EM) : EM := fun σ h => (c σ h).bind fun x h1 => if x then a σ h1 else b σ h1
abbrev MW (G : Gm) (X : Cx) (W : WX') (e : Expr) (c : BM) : Prop := PW X e (tB G W c)
variable {ba bb : BM} {rest : List Expr}
theorem mw_and1 (ha : MB G X W a ba) : MW G X W (.BoolOp .And [a] pos) ba := pw_and1 ha
theorem mw_or1 (ha : MB G X W a ba) : MW G X W (.BoolOp .Or [a] pos) ba := pw_or1 ha
theorem mw_and (ha : MB G X W a ba) (hb : MW G X W (.BoolOp .And (b :: rest) pos) bb) : MW G X W (.BoolOp .And (a :: b :: rest) pos) (bAnd ba bb) :=
  PW.weak (pw_and ha hb) fun σ' H Q q => by
    obtain ⟨m, σ, h, r, s⟩ := q
    unfold bAnd at s
    rw [sat_bind] at s
    refine tB.of r s (fun _ _ _ e => e) fun x h1 m1 H1 s1 g1 r1 => ?_
    cases x with
    | true => exact ⟨m1, σ, h1, r1, s1.mono (fun v h' z m' H' g r => z m' H' (g1.trans g) r) fun _ _ _ e => e.gr g1⟩
    | false => exact s1 m1 H1 g1 r1.hr
theorem mw_or (ha : MB G X W a ba) (hb : MW G X W (.BoolOp .Or (b :: rest) pos) bb) : MW G X W (.BoolOp .Or (a :: b :: rest) pos) (bOr ba bb) :=
  PW.weak (pw_or ha hb) fun σ' H Q q => by
    obtain ⟨m, σ, h, r, s⟩ := q
    unfold bOr at s
    rw [sat_bind] at s
    refine tB.of r s (fun _ _ _ e => e) fun x h1 m1 H1 s1 g1 r1 => ?_
    cases x with
    | false => exact ⟨m1, σ, h1, r1, s1.mono (fun v h' z m' H' g r => z m' H' (g1.trans g) r) fun _ _ _ e => e.gr g1⟩
    | true => exact s1 m1 H1 g1 r1.hr
theorem mb_not (ha : MB G X W a ba) : MB G X W (.UnaryOp .Not a pos) (bNot ba) :=
  PT.weak (pt_not ha) fun σ' H Q q => by
    obtain ⟨m, σ, h, r, s⟩ := q
    unfold bNot at s
    rw [sat_bind] at s
    exact tB.of r s (fun _ _ _ e => e) fun x h1 m1 H1 s1 g1 r1 => s1 m1 H1 g1 r1.hr
theorem me_one {op : PySem.BoolOp} (ha : ME G X W a ca) : ME G X W (.BoolOp op [a] pos) ca := pe_one ha
theorem me_and (ha : ME G X W a ca) (hb : ME G X W (.BoolOp .And (b :: rest) pos) cb) : ME G X W (.BoolOp .And (a :: b :: rest) pos) (eAnd ca cb) :=
  PE.weak (pe_and ha hb) fun σ' H Q q => by
    obtain ⟨m, σ, h, r, s⟩ := q
    unfold eAnd at s
    rw [sat_bind] at s
    refine tE.of r s (fun _ _ _ e => e) fun x h1 m1 H1 x' s1 g1 r1 rx => ?_
    cases x with
    | bl k =>
      refine ⟨k, rx, ?_⟩
      cases k with
      | true => exact ⟨m1, σ, h1, r1, s1.mono (fun v h' z m' H' v' g r => z m' H' v' (g1.trans g) r) fun _ _ _ e => e.gr g1⟩
      | false => exact s1 m1 H1 _ g1 r1.hr rfl
    | _ => exact s1.elim
theorem me_or (ha : ME G X W a ca) (hb : ME G X W (.BoolOp .Or (b :: rest) pos) cb) : ME G X W (.BoolOp .Or (a :: b :: rest) pos) (eOr ca cb) :=
  PE.weak (pe_or ha hb) fun σ' H Q q => by
    obtain ⟨m, σ, h, r, s⟩ := q
    unfold eOr at s
    rw [sat_bind] at s
    refine tE.of r s (fun _ _ _ e => e) fun x h1 m1 H1 x' s1 g1 r1 rx => ?_
    cases x with
    | bl k =>
      refine ⟨k, rx, ?_⟩
      cases k with
      | false => exact ⟨m1, σ, h1, r1, s1.mono (fun v h' z m' H' v' g r => z m' H' v' (g1.trans g) r) fun _ _ _ e => e.gr g1⟩
      | true => exact s1 m1 H1 _ g1 r1.hr rfl
    | _ => exact s1.elim
theorem me_not (ha : ME G X W a ca) : ME G X W (.UnaryOp .Not a pos) (eNot ca) :=
  PE.weak (pe_not ha) fun σ' H Q q => by
    obtain ⟨m, σ, h, r, s⟩ := q
    unfold eNot e1 at s
    rw [sat_bind] at s
    refine tE.of r s (fun _ _ _ e => e) fun x h1 m1 H1 x' s1 g1 r1 rx => ?_
    cases x with
    | bl k => exact ⟨k, rx, s1 m1 H1 _ g1 r1.hr rfl⟩
    | _ => exact s1.elim
theorem me_ifExp {bc : BM} (hc : MB G X W c bc) (ha : ME G X W a ca) (hb : ME G X W b cb) : ME G X W (.IfExp c a b pos) (eIf bc ca cb) :=
  PE.weak (pe_ifExp hc ha hb) fun σ' H Q q => by
    obtain ⟨m, σ, h, r, s⟩ := q
    unfold eIf at s
    rw [sat_bind] at s
    refine tB.of r s (fun _ _ _ e => e) fun x h1 m1 H1 s1 g1 r1 => ?_
    cases x with
    | true => exact ⟨m1, σ, h1, r1, s1.mono (fun v h' z m' H' v' g r => z m' H' v' (g1.trans g) r) fun _ _ _ e => e.gr g1⟩
    | false => exact ⟨m1, σ, h1, r1, s1.mono (fun v h' z m' H' v' g r => z m' H' v' (g1.trans g) r) fun _ _ _ e => e.gr g1⟩
/-- a chain of two comparisons -/
def eChain (o o' : OM) (a b c : EM) : EM := fun σ h => (a σ h).bind fun x h1 => (b σ h1).bind fun y h2 => (Rs.of (o x y h2)).bind fun z h3 => match z with
  | .bl true => (c σ h3).bind fun w h4 => Rs.of (o' y w h4)
  | .bl false => .ok (.bl false) h3
  | _ => .bad
theorem chain_in {H : Hp} {σ' : L2.St} {m : List Addr} {σ : Sg} {h : Hh} {o o' : OM} {Q : VK} (r : Rel G H m h σ σ')
    (s : Sat (eChain o o' ca cb cc σ h) (fun v h' => ∀ m' H' v', Gr G H m H' m' → HR G H' m' h' → RV G H' m' v v' → Q v' H') (EX G W H m σ')) : tChain (rO G o) (rO G o') (tE G W ca) (tE G W cb) (tE G W cc) σ' H Q := by
  unfold eChain at s
  rw [sat_bind] at s
  refine tE.of r s (fun _ _ _ e => e) fun x h1 m1 H1 x' s1 g1 r1 rx => ?_
  rw [sat_bind] at s1
  refine tE.of r1 s1 (fun _ _ _ e => e.gr g1) fun y h2 m2 H2 y' s2 g2 r2 ry => ?_
  refine ⟨m2, h2, x, y, r2.hr, RV.gr g2 _ _ rx, ry, ?_⟩
  rw [sat_bind] at s2
  cases q : o x y h2 with
  | none => rw [q] at s2; exact s2
  | some p =>
    obtain ⟨z, h3⟩ := p
    rw [q] at s2
    intro m3 H3 z' g3 r3 rz
    have s3 : Sat (match z with | .bl true => (cc σ h3).bind fun w h4 => Rs.of (o' y w h4) | .bl false => .ok (.bl false) h3 | _ => .bad) _ _ := s2
    have g123 := g1.trans (g2.trans g3)
    cases z with
    | bl k =>
      refine ⟨k, rz, ?_⟩
      cases k with
      | false => exact s3 m3 H3 _ g123 r3 rfl
      | true =>
        rw [sat_bind] at s3
        refine tE.of (r2.gr g3 r3) s3 (fun _ _ _ e => e.gr g123) fun w h4 m4 H4 w' s4 g4 r4 rw' => ?_
        exact ⟨m4, h4, y, w, r4.hr, RV.gr (g3.trans g4) _ _ ry, rw', (wnt_of s4).gr (g123.trans g4)⟩
    | _ => exact s3.elim
theorem me_chain {op op' : CmpOp} {o o' : OM} (ho : OpR X (compareOp op) (rO G o)) (ho' : OpR X (compareOp op') (rO G o')) (ha : ME G X W a ca) (hb : ME G X W b cb) (hc : ME G X W c cc)
    (hm : lastMarks [op, op'] [b, c] = false := by with_unfolding_all rfl) : ME G X W (.Compare a [op, op'] [b, c] pos) (eChain o o' ca cb cc) :=
  PE.weak (pe_chain ho ho' ha hb hc hm) fun σ' H Q q => by
    obtain ⟨m, σ, h, r, s⟩ := q
    exact chain_in r s
theorem mb_chain {op op' : CmpOp} {o o' : OM} (ho : OpR X (compareOp op) (rO G o)) (ho' : OpR X (compareOp op') (rO G o')) (ha : ME G X W a ca) (hb : ME G X W b cb) (hc : ME G X W c cc)
    (hm : lastMarks [op, op'] [b, c] = false := by with_unfolding_all rfl) : MB G X W (.Compare a [op, op'] [b, c] pos) (bT (eChain o o' ca cb cc)) :=
  PT.weak (pt_chain ho ho' ha hb hc hm) fun σ' H Q q => by
    have q' := tE_bool q
    obtain ⟨m, σ, h, r, s⟩ := q'
    exact chain_in r s
/-- arguments -/
theorem ma_nil : MA G X W [] aNil := PA.weak pa_nil fun σ' H Q q => by
  obtain ⟨m, σ, h, r, s⟩ := q
  exact s m H [] Gr.refl r.hr rfl
theorem ma_cons {es : List Expr} {cr : AM} (ha : ME G X W e ca) (hr : MA G X W es cr) (hs : starEach (e :: es) X.env = (false, eval e X.env) :: starEach es X.env := by rfl) : MA G X W (e :: es) (aCons ca cr) :=
  PA.weak (pa_cons ha hr hs) fun σ' H Q q => by
    obtain ⟨m, σ, h, r, s⟩ := q
    unfold aCons at s
    rw [sat_bind] at s
    refine tE.of r s (fun _ _ _ e => e) fun x h1 m1 H1 x' s1 g1 r1 rx => ?_
    rw [sat_bind] at s1
    refine tA.of r1 s1 (fun _ _ _ e => e.gr g1) fun xs h2 m2 H2 xs' s2 g2 r2 rxs => ?_
    exact s2 m2 H2 (x' :: xs') (g1.trans g2) r2.hr ⟨x', xs', rfl, RV.gr g2 _ _ rx, rxs⟩
/-- displays -/
def lstO : LM := fun xs h => if xs.length ≤ 1000000 then some (.ref h.length, h ++ [.lst xs]) else none
def tupO : LM := fun xs h => if xs.length ≤ 1000000 then some (.tup xs, h) else none
theorem me_lst {es : List Expr} {cs : AM} (hs : MA G X W es cs) : ME G X W (.List es pos) (eL lstO cs) :=
  PE.weak (pe_lst hs) fun σ' H Q q => by
    obtain ⟨m, σ, h, r, s⟩ := q
    have q' := args_in r s
    obtain ⟨m, σ, h, r, s⟩ := q'
    refine tA.of r s (fun _ _ _ e => e) fun xs h1 m1 H1 xs' s1 g1 r1 rxs => ?_
    obtain ⟨m2, h2, ys, hr, ry, w⟩ := s1 m1 H1 xs' g1 r1.hr rxs
    unfold lstO at w
    split at w
    · rename_i hl
      refine ⟨by rw [ry.length]; exact lim_ok hl, fun p np => ?_⟩
      obtain ⟨a1, a2, a3⟩ := newL hr ry np
      exact w _ _ _ a2 a1 a3
    · exact w.elim
theorem me_tup {es : List Expr} {cs : AM} {k : Nat} (hs : MA G X W es cs) : ME G X W (.Tuple es k pos) (eL tupO cs) :=
  PE.weak (pe_tup hs) fun σ' H Q q => by
    obtain ⟨m, σ, h, r, s⟩ := q
    have q' := args_in r s
    obtain ⟨m, σ, h, r, s⟩ := q'
    refine tA.of r s (fun _ _ _ e => e) fun xs h1 m1 H1 xs' s1 g1 r1 rxs => ?_
    obtain ⟨m2, h2, ys, hr, ry, w⟩ := s1 m1 H1 xs' g1 r1.hr rxs
    unfold tupO at w
    split at w
    · rename_i hl
      refine ⟨by rw [ry.length]; exact lim_ok hl, fun p np => ?_⟩
      obtain ⟨a1, a2, a3⟩ := newT hr ry np
      exact w _ _ _ a2 a1 a3
    · exact w.elim
end
end Mi
namespace Mi
open PySem PySem.Spec PyProof.Rows L2
/-! ### == -/
def scal : Pv → Bool
  | .non => true
  | .bl _ => true
  | .int _ => true
  | .str _ => true
  | _ => false
def eqS : Pv → Pv → Option Bool
  | .non, .non => some true
  | .bl a, .bl b => some (decide (a = b))
  | .bl a, .int j => some (decide ((if a then 1 else 0) = j))
  | .int i, .bl b => some (decide (i = (if b then 1 else 0)))
  | .int i, .int j => some (decide (i = j))
  | .str x, .str y => some (decide (x = y))
  | x, y => if scal x && scal y then some false else none
def eqL (f : Pv → Pv → Option Bool) : List Pv → List Pv → Option Bool
  | [], [] => some true
  | x :: xs, y :: ys => match f x y, eqL f xs ys with
    | some a, some b => some (a && b)
    | _, _ => none
  | _, _ => some false
def lstF (h : Hh) (a : Nat) : Option Bool := match h[a]? with
  | some (.lst _) => some false
  | _ => none
def eqP (h : Hh) : Nat → Pv → Pv → Option Bool
  | 0, _, _ => none
  | n + 1, x, y => match x, y with
    | .tup xs, .tup ys => eqL (eqP h n) xs ys
    | .ref a, .ref b => match h[a]?, h[b]? with
      | some (.lst xs), some (.lst ys) => if a = b then some true else if xs.length = ys.length then eqL (eqP h n) xs ys else some false
      | _, _ => none
    | .ref a, .tup _ => lstF h a
    | .tup _, .ref a => lstF h a
    | .ref a, y => if scal y then lstF h a else none
    | x, .ref a => if scal x then lstF h a else none
    | .tup _, y => if scal y then some false else none
    | x, .tup _ => if scal x then some false else none
    | x, y => eqS x y
section
variable {G : Gm} {X : Cx} {pins : List (Addr × Obj)} {σ' : L2.St} {H : Hp} {m : List Addr} {h : Hh} {s : Shared}
/-- the three faces of == -/
structure Eq3 (A : Around) (s : Shared) (u v : Value) (b : Bool) : Prop where
  eq : SeqAt.EqAt A s u v b
  rc : SeqAt.RcAt A s u v b
  ne : SeqAt.RcNeAt A s u v (!b)
theorem beq_dec {α : Type} [DecidableEq α] (a b : α) : (a == b) = decide (a = b) := by
  by_cases e : a = b <;> simp [e]
theorem str_dec (a b : Str) : (a == b) = decide (a = b) := by
  rw [Bool.eq_iff_iff]; simp
theorem eqS_at {A : Around} {x y : Pv} {x' y' : V} {u v : Value} {b : Bool} (rx : RV G H m x x') (ry : RV G H m y y') (ru : RelV x' u) (rv : RelV y' v) (e : eqS x y = some b) : Eq3 A s u v b := by
  cases x with
  | non =>
    have ex : x' = .non := rx
    subst ex; cases ru
    cases y with
    | non =>
      have ey : y' = .non := ry
      subst ey; cases rv
      have : true = b := Option.some.inj e
      subst this
      exact ⟨SeqAt.EqAt.same _, SeqAt.RcAt.none_none, SeqAt.RcNeAt.none_none⟩
    | bl j =>
      have ey : y' = .bl j := ry
      subst ey; cases rv
      have : false = b := Option.some.inj e
      subst this
      exact ⟨SeqAt.EqAt.none_bool j, SeqAt.RcAt.none_bool j, SeqAt.RcNeAt.none_bool j⟩
    | int j =>
      have ey : y' = .int j := ry
      subst ey; obtain ⟨t, rfl⟩ := rv
      have : false = b := Option.some.inj e
      subst this
      exact ⟨SeqAt.EqAt.none_int j t, SeqAt.RcAt.none_int j t, SeqAt.RcNeAt.none_int j t⟩
    | str j =>
      have ey : y' = .str j := ry
      subst ey; obtain ⟨t, rfl⟩ := rv
      have : false = b := Option.some.inj e
      subst this
      exact ⟨SeqAt.EqAt.none_str j t, SeqAt.RcAt.none_str j t, SeqAt.RcNeAt.none_str j t⟩
    | _ => exact absurd e (by simp [eqS, scal])
  | bl i =>
    have ex : x' = .bl i := rx
    subst ex; cases ru
    cases y with
    | non =>
      have ey : y' = .non := ry
      subst ey; cases rv
      have : false = b := Option.some.inj e
      subst this
      exact ⟨SeqAt.EqAt.bool_none i, SeqAt.RcAt.bool_none i, SeqAt.RcNeAt.bool_none i⟩
    | bl j =>
      have ey : y' = .bl j := ry
      subst ey; cases rv
      have : decide (i = j) = b := Option.some.inj e
      subst this
      rw [← beq_dec]
      exact ⟨SeqAt.EqAt.bool_bool i j, SeqAt.RcAt.bool_bool i j, SeqAt.RcNeAt.bool_bool i j⟩
    | int j =>
      have ey : y' = .int j := ry
      subst ey; obtain ⟨t, rfl⟩ := rv
      have : decide ((if i then 1 else 0) = j) = b := Option.some.inj e
      subst this
      rw [← beq_dec]
      exact ⟨SeqAt.EqAt.bool_int i j t, SeqAt.RcAt.bool_int i j t, SeqAt.RcNeAt.bool_int i j t⟩
    | str j =>
      have ey : y' = .str j := ry
      subst ey; obtain ⟨t, rfl⟩ := rv
      have : false = b := Option.some.inj e
      subst this
      exact ⟨SeqAt.EqAt.bool_str i j t, SeqAt.RcAt.bool_str i j t, SeqAt.RcNeAt.bool_str i j t⟩
    | _ => exact absurd e (by simp [eqS, scal])
  | int i =>
    have ex : x' = .int i := rx
    subst ex; obtain ⟨t0, rfl⟩ := ru
    cases y with
    | non =>
      have ey : y' = .non := ry
      subst ey; cases rv
      have : false = b := Option.some.inj e
      subst this
      exact ⟨SeqAt.EqAt.int_none i t0, SeqAt.RcAt.int_none i t0, SeqAt.RcNeAt.int_none i t0⟩
    | bl j =>
      have ey : y' = .bl j := ry
      subst ey; cases rv
      have : decide (i = (if j then 1 else 0)) = b := Option.some.inj e
      subst this
      rw [← beq_dec]
      exact ⟨SeqAt.EqAt.int_bool i t0 j, SeqAt.RcAt.int_bool i t0 j, SeqAt.RcNeAt.int_bool i t0 j⟩
    | int j =>
      have ey : y' = .int j := ry
      subst ey; obtain ⟨t, rfl⟩ := rv
      have : decide (i = j) = b := Option.some.inj e
      subst this
      rw [← beq_dec]
      exact ⟨SeqAt.EqAt.int_int i t0 j t, SeqAt.RcAt.int_int i t0 j t, SeqAt.RcNeAt.int_int i t0 j t⟩
    | str j =>
      have ey : y' = .str j := ry
      subst ey; obtain ⟨t, rfl⟩ := rv
      have : false = b := Option.some.inj e
      subst this
      exact ⟨SeqAt.EqAt.int_str i t0 j t, SeqAt.RcAt.int_str i t0 j t, SeqAt.RcNeAt.int_str i t0 j t⟩
    | _ => exact absurd e (by simp [eqS, scal])
  | str i =>
    have ex : x' = .str i := rx
    subst ex; obtain ⟨t0, rfl⟩ := ru
    cases y with
    | non =>
      have ey : y' = .non := ry
      subst ey; cases rv
      have : false = b := Option.some.inj e
      subst this
      exact ⟨SeqAt.EqAt.str_none i t0, SeqAt.RcAt.str_none i t0, SeqAt.RcNeAt.str_none i t0⟩
    | bl j =>
      have ey : y' = .bl j := ry
      subst ey; cases rv
      have : false = b := Option.some.inj e
      subst this
      exact ⟨SeqAt.EqAt.str_bool i t0 j, SeqAt.RcAt.str_bool i t0 j, SeqAt.RcNeAt.str_bool i t0 j⟩
    | int j =>
      have ey : y' = .int j := ry
      subst ey; obtain ⟨t, rfl⟩ := rv
      have : false = b := Option.some.inj e
      subst this
      exact ⟨SeqAt.EqAt.str_int i t0 j t, SeqAt.RcAt.str_int i t0 j t, SeqAt.RcNeAt.str_int i t0 j t⟩
    | str j =>
      have ey : y' = .str j := ry
      subst ey; obtain ⟨t, rfl⟩ := rv
      have : decide (i = j) = b := Option.some.inj e
      subst this
      rw [← str_dec]
      exact ⟨SeqAt.EqAt.str_str i t0 j t, SeqAt.RcAt.str_str i t0 j t, SeqAt.RcNeAt.str_str i t0 j t⟩
    | _ => exact absurd e (by simp [eqS, scal])
  | _ => cases y <;> exact absurd e (by simp [eqS, scal])
/-- a list against a scalar; a tuple against a scalar -/
theorem lst_scal {A : Around} {l : Addr} {items : Array Value} {y : Pv} {y' : V} {v : Value} (hl : s.heap.IsList l items) (hu : A.units < cLine) (ry : RV G H m y y') (rv : RelV y' v) (sy : scal y = true) : Eq3 A s (.ref l) v false ∧ Eq3 A s v (.ref l) false := by
  cases y with
  | non =>
    have ey : y' = .non := ry
    subst ey; cases rv
    exact ⟨⟨.list_none hl hu, .list_none hl hu, .list_none hl hu⟩, ⟨.none_list hl hu, .none_list hl hu, .none_list hl hu⟩⟩
  | bl j =>
    have ey : y' = .bl j := ry
    subst ey; cases rv
    exact ⟨⟨.list_bool j hl hu, .list_bool j hl hu, .list_bool j hl hu⟩, ⟨.bool_list j hl hu, .bool_list j hl hu, .bool_list j hl hu⟩⟩
  | int j =>
    have ey : y' = .int j := ry
    subst ey; obtain ⟨t, rfl⟩ := rv
    exact ⟨⟨.list_int j t hl hu, .list_int j t hl hu, .list_int j t hl hu⟩, ⟨.int_list j t hl hu, .int_list j t hl hu, .int_list j t hl hu⟩⟩
  | str j =>
    have ey : y' = .str j := ry
    subst ey; obtain ⟨t, rfl⟩ := rv
    exact ⟨⟨.list_str j t hl hu, .list_str j t hl hu, .list_str j t hl hu⟩, ⟨.str_list j t hl hu, .str_list j t hl hu, .str_list j t hl hu⟩⟩
  | _ => exact absurd (show false = true from sy) Bool.false_ne_true
theorem tup_scal {A : Around} {l : Addr} {items : Array Value} {y : Pv} {y' : V} {v : Value} (hl : s.heap.IsTuple l items) (hu : A.units < cLine) (ry : RV G H m y y') (rv : RelV y' v) (sy : scal y = true) : Eq3 A s (.ref l) v false ∧ Eq3 A s v (.ref l) false := by
  cases y with
  | non =>
    have ey : y' = .non := ry
    subst ey; cases rv
    exact ⟨⟨.tuple_none hl hu, .tuple_none hl hu, .tuple_none hl hu⟩, ⟨.none_tuple hl hu, .none_tuple hl hu, .none_tuple hl hu⟩⟩
  | bl j =>
    have ey : y' = .bl j := ry
    subst ey; cases rv
    exact ⟨⟨.tuple_bool j hl hu, .tuple_bool j hl hu, .tuple_bool j hl hu⟩, ⟨.bool_tuple j hl hu, .bool_tuple j hl hu, .bool_tuple j hl hu⟩⟩
  | int j =>
    have ey : y' = .int j := ry
    subst ey; obtain ⟨t, rfl⟩ := rv
    exact ⟨⟨.tuple_int j t hl hu, .tuple_int j t hl hu, .tuple_int j t hl hu⟩, ⟨.int_tuple j t hl hu, .int_tuple j t hl hu, .int_tuple j t hl hu⟩⟩
  | str j =>
    have ey : y' = .str j := ry
    subst ey; obtain ⟨t, rfl⟩ := rv
    exact ⟨⟨.tuple_str j t hl hu, .tuple_str j t hl hu, .tuple_str j t hl hu⟩, ⟨.str_tuple j t hl hu, .str_tuple j t hl hu, .str_tuple j t hl hu⟩⟩
  | _ => exact absurd (show false = true from sy) Bool.false_ne_true
end
end Mi
namespace Mi
open PySem PySem.Spec PyProof.Rows L2
section
variable {G : Gm} {X : Cx} {pins : List (Addr × Obj)} {σ' : L2.St} {H : Hp} {m : List Addr} {h : Hh} {s : Shared}
theorem kNone (I : Inv X pins σ' H s) (hK : X.K = G.K) {p : Addr} {o : Obj} (e : G.K.lookup p = some o) : H p = none := (I.bs p o (I.ok.mod.kin p o (by rw [hK]; exact e))).2
theorem list_not_tuple {a : Addr} {i1 i2 : Array Value} (h1 : s.heap.IsList a i1) (h2 : s.heap.IsTuple a i2) : False := by
  obtain ⟨o, e, c, _⟩ := h1
  obtain ⟨o', e', c', _⟩ := h2
  rw [e] at e'; cases e'
  rw [c] at c'
  exact absurd c' (by decide)
theorem FrzL.not_mut (I : Inv X pins σ' H s) (hK : X.K = G.K) {p : Addr} {xs : List V} (f : FrzL G.K H p xs) : mutO (H p) = false := by
  rcases f with ⟨o, e⟩ | ⟨o, _, _, e, _⟩
  · rw [e]; rfl
  · rw [kNone I hK e]; rfl
theorem TupL.not_mut (I : Inv X pins σ' H s) (hK : X.K = G.K) {p : Addr} {xs : List V} (f : TupL G.K H p xs) : mutO (H p) = false := by
  rcases f with e | ⟨o, _, _, e, _⟩
  · rw [e]; rfl
  · rw [kNone I hK e]; rfl
theorem HR.mutp (r : HR G H m h) {a : Nat} {p : Addr} (e : m[a]? = some p) : mutO (H p) = true := by
  have hi : a < h.length := by rw [← r.len]; exact (List.getElem?_eq_some_iff.mp e).1
  exact (r.at' a _ p (List.getElem?_eq_getElem hi) e).mut
theorem frz_ne_tup (I : Inv X pins σ' H s) (hK : X.K = G.K) {p : Addr} {xs ys : List V} (f : FrzL G.K H p xs) (t : TupL G.K H p ys) : False := by
  obtain ⟨_, _, h1, _⟩ := I.list (hK ▸ f.sq)
  obtain ⟨_, _, h2, _⟩ := I.tuple (hK ▸ t.sq)
  exact list_not_tuple h1.isList h2
theorem map_int_inj : ∀ {a b : List Int}, a.map V.int = b.map V.int → a = b
  | [], [], _ => rfl
  | [], _ :: _, e => by simp at e
  | _ :: _, [], e => by simp at e
  | x :: xs, y :: ys, e => by
    simp only [List.map_cons, List.cons.injEq, V.int.injEq] at e
    rw [e.1, map_int_inj e.2]
mutual
theorem RV.inj (I : Inv X pins σ' H s) (hK : X.K = G.K) (hr : HR G H m h) : ∀ (x y : Pv) (v : V), RV G H m x v → RV G H m y v → x = y
  | .non, y, v, h1, h2 => by
    have e : v = .non := h1
    subst e
    cases y <;> simp [RV] at h2 ⊢
  | .bl b, y, v, h1, h2 => by
    have e : v = .bl b := h1
    subst e
    cases y <;> simp [RV] at h2 ⊢ <;> exact h2
  | .int b, y, v, h1, h2 => by
    have e : v = .int b := h1
    subst e
    cases y <;> simp [RV] at h2 ⊢ <;> exact h2
  | .str b, y, v, h1, h2 => by
    have e : v = .str b := h1
    subst e
    cases y <;> simp [RV] at h2 ⊢ <;> exact h2
  | .ty b, y, v, h1, h2 => by
    have e : v = .ty b := h1
    subst e
    cases y <;> simp [RV] at h2 ⊢ <;> exact h2
  | .ref a, y, v, ⟨p, e, q⟩, h2 => by
    subst e
    cases y with
    | ref b =>
      obtain ⟨p', e', q'⟩ := h2
      cases e'
      rw [hr.nd a b p q q']
    | scr ns =>
      obtain ⟨p', e', q'⟩ := h2
      cases e'
      have := q'.not_mut I hK
      rw [hr.mutp q] at this; cases this
    | tup xs =>
      obtain ⟨p', ys, e', q', _⟩ := h2
      cases e'
      have := TupL.not_mut I hK q'
      rw [hr.mutp q] at this; cases this
    | _ => simp [RV] at h2
  | .scr ns, y, v, ⟨p, e, q⟩, h2 => by
    subst e
    cases y with
    | ref b =>
      obtain ⟨p', e', q'⟩ := h2
      cases e'
      have := q.not_mut I hK
      rw [hr.mutp q'] at this; cases this
    | scr ns' =>
      obtain ⟨p', e', q'⟩ := h2
      cases e'
      have e2 := I.list_inj (hK ▸ q.sq) (hK ▸ q'.sq)
      rw [map_int_inj e2]
    | tup xs =>
      obtain ⟨p', ys, e', q', _⟩ := h2
      cases e'
      exact (frz_ne_tup I hK q q').elim
    | _ => simp [RV] at h2
  | .tup xs, y, v, ⟨p, ys, e, q, r⟩, h2 => by
    subst e
    cases y with
    | ref b =>
      obtain ⟨p', e', q'⟩ := h2
      cases e'
      have := TupL.not_mut I hK q
      rw [hr.mutp q'] at this; cases this
    | scr ns' =>
      obtain ⟨p', e', q'⟩ := h2
      cases e'
      exact (frz_ne_tup I hK q' q).elim
    | tup xs' =>
      obtain ⟨p', ys', e', q', r'⟩ := h2
      cases e'
      have e2 := I.tuple_inj (hK ▸ q.sq) (hK ▸ q'.sq)
      subst e2
      rw [RVs.inj I hK hr xs xs' ys r r']
    | _ => simp [RV] at h2
theorem RVs.inj (I : Inv X pins σ' H s) (hK : X.K = G.K) (hr : HR G H m h) : ∀ (xs ys : List Pv) (vs : List V), RVs G H m xs vs → RVs G H m ys vs → xs = ys
  | [], ys, vs, h1, h2 => by
    have e : vs = [] := h1
    subst e
    cases ys with
    | nil => rfl
    | cons y ys => obtain ⟨_, _, e, _⟩ := h2; cases e
  | x :: xs, ys, vs, ⟨v, ws, e, r, rs⟩, h2 => by
    subst e
    cases ys with
    | nil => cases h2
    | cons y ys =>
      obtain ⟨v', ws', e', r', rs'⟩ := h2
      cases e'
      rw [RV.inj I hK hr x y v r r', RVs.inj I hK hr xs ys ws rs rs']
end
theorem eqL_refl {f : Pv → Pv → Option Bool} (hf : ∀ x b, f x x = some b → b = true) : ∀ (xs : List Pv) (b : Bool), eqL f xs xs = some b → b = true
  | [], b, e => (Option.some.inj e).symm
  | x :: xs, b, e => by
    unfold eqL at e
    split at e
    · rename_i p q h1 h2
      have := Option.some.inj e
      rw [hf x p h1, eqL_refl hf xs q h2] at this
      exact this.symm
    · cases e
theorem eqP_refl {h : Hh} : ∀ (n : Nat) (x : Pv) (b : Bool), eqP h n x x = some b → b = true
  | 0, _, _, e => by cases e
  | n + 1, x, b, e => by
    cases x with
    | tup xs => exact eqL_refl (fun y c => eqP_refl n y c) xs b e
    | ref a =>
      unfold eqP at e
      simp only at e
      split at e
      · simp at e; exact e
      · cases e
    | non => exact (Option.some.inj e).symm
    | bl k => simp [eqP, eqS] at e; exact e
    | int k => simp [eqP, eqS] at e; exact e
    | str k => simp [eqP, eqS] at e; exact e
    | scr k => simp [eqP, eqS, scal] at e
    | ty k => simp [eqP, eqS, scal] at e
/-- the items' equality by place -/
theorem eqL_at {f : Pv → Pv → Option Bool} : ∀ {xs ys : List Pv} {b : Bool}, eqL f xs ys = some b →
    ∃ e : Nat → Bool, (∀ j x y, xs[j]? = some x → ys[j]? = some y → f x y = some (e j)) ∧ b = ((List.range (min xs.length ys.length)).all e && xs.length == ys.length)
  | [], [], b, h => ⟨fun _ => true, fun j x y h1 => by simp at h1, by simp [eqL] at h; simp [← h]⟩
  | [], y :: ys, b, h => ⟨fun _ => true, fun j x y h1 => by simp at h1, by simp [eqL] at h; simp [← h]⟩
  | x :: xs, [], b, h => ⟨fun _ => true, fun j x y _ h1 => by simp at h1, by simp [eqL] at h; simp [← h]⟩
  | x :: xs, y :: ys, b, h => by
    unfold eqL at h
    split at h
    · rename_i p q h1 h2
      obtain ⟨e, he, eb⟩ := eqL_at h2
      have hb := Option.some.inj h
      refine ⟨fun j => if j = 0 then p else e (j - 1), fun j x' y' h3 h4 => ?_, ?_⟩
      · cases j with
        | zero =>
          simp at h3 h4; subst h3; subst h4
          simpa using h1
        | succ j => simpa using he j x' y' (by simpa using h3) (by simpa using h4)
      · rw [← hb, eb]
        simp only [List.length_cons]
        rw [show min (xs.length + 1) (ys.length + 1) = min xs.length ys.length + 1 by omega, List.range_succ_eq_map]
        simp only [List.all_cons, List.all_map]
        have e1 : (List.range (min xs.length ys.length)).all ((fun j => if j = 0 then p else e (j - 1)) ∘ Nat.succ) = (List.range (min xs.length ys.length)).all e := by
          congr 1
        rw [e1]
        have e2 : (xs.length + 1 == ys.length + 1) = (xs.length == ys.length) := by
          rw [Bool.eq_iff_iff]; simp
        rw [e2, Bool.and_assoc]
        simp
    · cases h
theorem vals_at {xs : List Pv} {ys : List V} {its : List Value} (r : RVs G H m xs ys) (v : Vals ys its) {j : Nat} (hj : j < its.toArray.size) : ∃ x y, xs[j]? = some x ∧ RV G H m x y ∧ RelV y its.toArray[j] := by
  have l1 := v.length
  have l2 := r.length
  have hj' : j < its.length := by simpa using hj
  have hx : j < xs.length := by omega
  obtain ⟨y, e1, r1⟩ := r.get (List.getElem?_eq_getElem hx)
  obtain ⟨u, e2, r2⟩ := v.get e1
  refine ⟨xs[j], y, List.getElem?_eq_getElem hx, r1, ?_⟩
  have : u = its.toArray[j] := by
    rw [List.getElem?_eq_getElem hj'] at e2
    simpa using (Option.some.inj e2).symm
  rw [← this]; exact r2
theorem in1_units {A : Around} : A.in1.units = A.units + 1 := rfl
theorem eqP_at (I : Inv X pins σ' H s) (hK : X.K = G.K) (hr : HR G H m h) : ∀ (n : Nat) (A : Around) (x y : Pv) (x' y' : V) (u v : Value) (b : Bool), A.units + n < cLine → RV G H m x x' → RV G H m y y' → RelV x' u → RelV y' v → eqP h n x y = some b → Eq3 A s u v b
  | 0, _, _, _, _, _, _, _, _, _, _, _, _, _, e => by cases e
  | n + 1, A, x, y, x', y', u, v, b, hu, rx, ry, ru, rv, e => by
    have ih := eqP_at I hK hr n
    have hu0 : A.units < cLine := by omega
    have lists : ∀ {a : Nat} {z' : V} {z : Value} {xs : List Pv}, RV G H m (.ref a) z' → RelV z' z → h[a]? = some (.lst xs) → ∃ p ys its, z = .ref p ∧ m[a]? = some p ∧ RVs G H m xs ys ∧ Vals ys its ∧ s.heap.IsList p its.toArray := by
      intro a z' z xs r1 r2 e1
      obtain ⟨p, ys, hm, hp, rs⟩ := hr.lst e1
      have := r1.refp hm
      subst this
      have e2 : z = Value.ref p := r2
      obtain ⟨its, vv, hl, _⟩ := I.list (X := X) (.inl (.inl hp))
      exact ⟨p, ys, its, e2, hm, rs, vv, hl.isList⟩
    have tuples : ∀ {xs : List Pv} {z' : V} {z : Value}, RV G H m (.tup xs) z' → RelV z' z → ∃ p ys its, z = .ref p ∧ z' = .ref p ∧ RVs G H m xs ys ∧ Vals ys its ∧ s.heap.IsTuple p its.toArray := by
      intro xs z' z r1 r2
      obtain ⟨p, ys, e1, q, rs⟩ := r1
      subst e1
      have e2 : z = Value.ref p := r2
      obtain ⟨its, vv, hl, _⟩ := I.tuple (X := X) (hK ▸ q.sq)
      exact ⟨p, ys, its, e2, rfl, rs, vv, hl⟩
    cases x with
    | tup xs =>
      obtain ⟨p, ps, its, eu, ex', rs, vv, ht⟩ := tuples rx ru
      cases y with
      | tup ys =>
        obtain ⟨q, qs, its', ev, ey', rs', vv', ht'⟩ := tuples ry rv
        have e' : eqL (eqP h n) xs ys = some b := e
        obtain ⟨ee, he, eb⟩ := eqL_at e'
        have l1 := vv.length
        have l2 := rs.length
        have l1' := vv'.length
        have l2' := rs'.length
        have items : ∀ j (h1 : j < its.toArray.size) (h2 : j < its'.toArray.size), SeqAt.EqAt A.in1 s its.toArray[j] its'.toArray[j] (ee j) := by
          intro j h1 h2
          obtain ⟨x1, y1, a1, a2, a3⟩ := vals_at rs vv h1
          obtain ⟨x2, y2, b1, b2, b3⟩ := vals_at rs' vv' h2
          exact (ih A.in1 x1 x2 y1 y2 _ _ _ (by rw [in1_units]; omega) a2 b2 a3 b3 (he j x1 x2 a1 b1)).eq
        have eb' : b = ((List.range (min its.toArray.size its'.toArray.size)).all ee && its.toArray.size == its'.toArray.size) := by
          rw [eb]
          simp only [List.size_toArray]
          rw [← l1, ← l1', l2, l2']
        subst eu; subst ev
        rw [eb']
        refine ⟨?_, SeqAt.RcAt.tuples ht ht' hu0 items, SeqAt.RcNeAt.tuples ht ht' hu0 items⟩
        by_cases hpq : p = q
        · subst hpq
          have exy : Pv.tup xs = Pv.tup ys := by
            subst ex'; subst ey'
            exact RV.inj I hK hr _ _ _ rx ry
          cases exy
          have := eqL_refl (fun z c => eqP_refl n z c) xs b e'
          rw [← eb', this]
          exact SeqAt.EqAt.same _
        · exact SeqAt.EqAt.of_refs hpq (SeqAt.RcAt.tuples ht ht' hu0 items)
      | ref a =>
        have e' : lstF h a = some b := e
        unfold lstF at e'
        split at e'
        · rename_i zs ez
          obtain ⟨q, qs, its', ev, _, rs', vv', hl⟩ := lists ry rv ez
          have := Option.some.inj e'
          subst this; subst eu; subst ev
          exact ⟨.tuple_list ht hl hu0, .tuple_list ht hl hu0, .tuple_list ht hl hu0⟩
        · cases e'
      | scr ns => simp [eqP, scal] at e
      | ty ns => simp [eqP, scal] at e
      | _ =>
        simp only [eqP, scal, if_true] at e
        have := Option.some.inj e
        subst this; subst eu
        exact (tup_scal ht hu0 ry rv rfl).1
    | ref a =>
      cases y with
      | tup ys =>
        obtain ⟨q, qs, its', ev, ey', rs', vv', ht'⟩ := tuples ry rv
        have e' : lstF h a = some b := e
        unfold lstF at e'
        split at e'
        · rename_i zs ez
          obtain ⟨p, ps, its, eu, _, rs, vv, hl⟩ := lists rx ru ez
          have := Option.some.inj e'
          subst this; subst eu; subst ev
          exact ⟨.list_tuple hl ht' hu0, .list_tuple hl ht' hu0, .list_tuple hl ht' hu0⟩
        · cases e'
      | ref a' =>
        unfold eqP at e
        simp only at e
        split at e
        · rename_i xs ys e1 e2
          obtain ⟨p, ps, its, eu, hm, rs, vv, hl⟩ := lists rx ru e1
          obtain ⟨q, qs, its', ev, hm', rs', vv', hl'⟩ := lists ry rv e2
          subst eu; subst ev
          have l1 := vv.length
          have l2 := rs.length
          have l1' := vv'.length
          have l2' := rs'.length
          by_cases haa : a = a'
          · subst haa
            rw [if_pos rfl] at e
            have := Option.some.inj e
            subst this
            rw [hm] at hm'; cases hm'
            have hits : its.toArray = its'.toArray := by
              obtain ⟨o, q1, q2, n1, q3⟩ := hl
              obtain ⟨o', q1', q2', n1', q3'⟩ := hl'
              rw [q1] at q1'; cases q1'
              rw [q3] at q3'; cases q3'; rfl
            have allT : ((List.range its.toArray.size).all fun _ => true) = true := by simp
            have items : ∀ j (h1 : j < its.toArray.size) (h2 : j < its.toArray.size), SeqAt.EqAt A.in1 s its.toArray[j] its.toArray[j] ((fun _ => true) j) := fun j _ _ => SeqAt.EqAt.same _
            have r1 := SeqAt.RcAt.lists (e := fun _ => true) hl hl rfl hu0 items
            have r2 := SeqAt.RcNeAt.lists (e := fun _ => true) hl hl rfl hu0 items
            rw [allT] at r1 r2
            exact ⟨SeqAt.EqAt.same _, r1, r2⟩
          · rw [if_neg haa] at e
            have hpq : p ≠ q := fun z => haa (hr.nd a a' p hm (by rw [z]; exact hm'))
            by_cases hlen : xs.length = ys.length
            · rw [if_pos hlen] at e
              obtain ⟨ee, he, eb⟩ := eqL_at e
              have items : ∀ j (h1 : j < its.toArray.size) (h2 : j < its'.toArray.size), SeqAt.EqAt A.in1 s its.toArray[j] its'.toArray[j] (ee j) := by
                intro j h1 h2
                obtain ⟨x1, y1, a1, a2, a3⟩ := vals_at rs vv h1
                obtain ⟨x2, y2, b1, b2, b3⟩ := vals_at rs' vv' h2
                exact (ih A.in1 x1 x2 y1 y2 _ _ _ (by rw [in1_units]; omega) a2 b2 a3 b3 (he j x1 x2 a1 b1)).eq
              have hsz : its.toArray.size = its'.toArray.size := by simp only [List.size_toArray]; omega
              have eb' : b = (List.range its.toArray.size).all ee := by
                rw [eb, ← hlen]
                simp only [List.size_toArray, Nat.min_self, beq_self_eq_true, Bool.and_true]
                rw [← l1, l2]
              rw [eb']
              exact ⟨SeqAt.EqAt.of_refs hpq (SeqAt.RcAt.lists hl hl' hsz hu0 items), SeqAt.RcAt.lists hl hl' hsz hu0 items, SeqAt.RcNeAt.lists hl hl' hsz hu0 items⟩
            · rw [if_neg hlen] at e
              have := Option.some.inj e
              subst this
              have hsz : (its.toArray.size != its'.toArray.size) = true := by
                simp only [List.size_toArray, bne_iff_ne, ne_eq]; omega
              exact ⟨SeqAt.EqAt.of_refs hpq (SeqAt.RcAt.lists_lengths hl hl' hsz hu0), SeqAt.RcAt.lists_lengths hl hl' hsz hu0, SeqAt.RcNeAt.lists_lengths hl hl' hsz hu0⟩
        · cases e
      | scr ns => simp [eqP, scal] at e
      | ty ns => simp [eqP, scal] at e
      | _ =>
        simp only [eqP, scal, if_true] at e
        unfold lstF at e
        split at e
        · rename_i zs ez
          obtain ⟨p, ps, its, eu, _, rs, vv, hl⟩ := lists rx ru ez
          have := Option.some.inj e
          subst this; subst eu
          exact (lst_scal hl hu0 ry rv rfl).1
        · cases e
    | scr ns => cases y <;> simp [eqP, eqS, scal] at e
    | ty ns => cases y <;> simp [eqP, eqS, scal] at e
    | _ =>
      cases y with
      | tup ys =>
        obtain ⟨q, qs, its', ev, ey', rs', vv', ht'⟩ := tuples ry rv
        simp only [eqP, scal, if_true] at e
        have := Option.some.inj e
        subst this; subst ev
        exact (tup_scal ht' hu0 rx ru rfl).2
      | ref a =>
        simp only [eqP, scal, if_true] at e
        unfold lstF at e
        split at e
        · rename_i zs ez
          obtain ⟨p, ps, its, eu, _, rs, vv, hl⟩ := lists ry rv ez
          have := Option.some.inj e
          subst this; subst eu
          exact (lst_scal hl hu0 rx ru rfl).2
        · cases e
      | _ => exact eqS_at rx ry ru rv e
/-- == and != as operations -/
def eqO : OM := fun x y h => (eqP h 40 x y).map fun b => (.bl b, h)
def neO : OM := fun x y h => (eqP h 40 x y).map fun b => (.bl (!b), h)
theorem op_eqO (hK : X.K = G.K) (hu : X.A.units + 64 < cLine) : OpR X (compareOp .Eq) (rO G eqO) := by
  intro pins s σ' H x' y' u v Q I ru rv q
  obtain ⟨m, h, x, y, hr, rx, ry, w⟩ := q
  unfold eqO at w
  cases e : eqP h 40 x y with
  | none => rw [e] at w; exact w.elim
  | some b =>
    rw [e] at w
    exact (eqP_at I hK hr 40 X.A x y x' y' u v b (by omega) rx ry ru rv e).rc _ _ _ _ ⟨.bl b, H, I, rfl, w m H _ Gr.refl hr rfl⟩
theorem op_neO (hK : X.K = G.K) (hu : X.A.units + 64 < cLine) : OpR X (compareOp .NotEq) (rO G neO) := by
  intro pins s σ' H x' y' u v Q I ru rv q
  obtain ⟨m, h, x, y, hr, rx, ry, w⟩ := q
  unfold neO at w
  cases e : eqP h 40 x y with
  | none => rw [e] at w; exact w.elim
  | some b =>
    rw [e] at w
    exact (eqP_at I hK hr 40 X.A x y x' y' u v b (by omega) rx ry ru rv e).ne _ _ _ _ ⟨.bl (!b), H, I, rfl, w m H _ Gr.refl hr rfl⟩
end
end Mi
namespace Mi
open PySem PySem.Spec PyProof.Rows L2
/-! ### arithmetic, comparisons -/
def addO : OM := fun x y h => match x, y with
  | .int i, .int j => some (.int (i + j), h)
  | .str i, .str j => if i.length + j.length ≤ 1000000 then some (.str (i ++ j), h) else none
  | .tup xs, .tup ys => if xs.length + ys.length ≤ 1000000 then some (.tup (xs ++ ys), h) else none
  | .ref a, .ref b => match h[a]?, h[b]? with
    | some (.lst xs), some (.lst ys) => if xs.length + ys.length ≤ 1000000 then some (.ref h.length, h ++ [.lst (xs ++ ys)]) else none
    | _, _ => none
  | _, _ => none
def subO : OM := fun x y h => match x, y with
  | .int i, .int j => some (.int (i - j), h)
  | _, _ => none
def mulO : OM := fun x y h => match x, y with
  | .int i, .int j => if i.natAbs.log2 + j.natAbs.log2 < 1000000 ∨ (-18446744073709551616 < i ∧ i < 18446744073709551616) ∨ (-18446744073709551616 < j ∧ j < 18446744073709551616) then some (.int (i * j), h) else none
  | .ref a, .int k => match h[a]? with
    | some (.lst xs) => if 0 ≤ k ∧ k < 1000 ∧ xs.length ≤ 1000 then some (.ref h.length, h ++ [.lst (List.replicate k.toNat xs).flatten]) else none
    | _ => none
  | _, _ => none
def fdivO : OM := fun x y h => match x, y with
  | .int i, .int j => if 0 < j ∧ j.natAbs.log2 < 9000 then some (.int (i / j), h) else none
  | _, _ => none
def modO : OM := fun x y h => match x, y with
  | .int i, .int j => if 0 < j then some (.int (i % j), h) else none
  | _, _ => none
def powO : OM := fun x y h => match x, y with
  | .int i, .int j => if 0 ≤ j ∧ j ≤ 1000 ∧ i.natAbs < 2 ^ 64 then some (.int (i ^ j.toNat), h) else none
  | _, _ => none
def ltO : OM := fun x y h => match x, y with
  | .int i, .int j => some (.bl (decide (i < j)), h)
  | .str i, .str j => some (.bl (decide (i.cps.toList < j.cps.toList)), h)
  | _, _ => none
def gtO : OM := fun x y h => match x, y with
  | .int i, .int j => some (.bl (decide (j < i)), h)
  | _, _ => none
def leO : OM := fun x y h => match x, y with
  | .int i, .int j => some (.bl (decide (i ≤ j)), h)
  | _, _ => none
def geO : OM := fun x y h => match x, y with
  | .int i, .int j => some (.bl (decide (j ≤ i)), h)
  | _, _ => none
def negO : UM := fun x h => match x with
  | .int i => some (.int (-i), h)
  | _ => none
def isNoneO : OM := fun x y h => match y with
  | .non => match x with
    | .non => some (.bl true, h)
    | _ => some (.bl false, h)
  | _ => none
def isNotO : OM := fun x y h => match y with
  | .non => match x with
    | .non => some (.bl false, h)
    | _ => some (.bl true, h)
  | _ => none
section
variable {G : Gm} {X : Cx}
theorem wnt_same {H : Hp} {m : List Addr} {h : Hh} {v : Pv} {v' : V} {Q : VK} (hr : HR G H m h) (w : Wnt G H m (some (v, h)) Q) (r : RV G H m v v') : Q v' H := w m H v' Gr.refl hr r
theorem wnt_lst {H : Hp} {m : List Addr} {h : Hh} {xs : List Pv} {ys : List V} {p : Addr} {Q : VK} (hr : HR G H m h) (w : Wnt G H m (some (.ref h.length, h ++ [.lst xs])) Q) (r : RVs G H m xs ys) (np : H p = none) : Q (.ref p) (upd H p (.lst ys)) := by
  obtain ⟨a, b, c⟩ := newL hr r np
  exact w _ _ _ b a c
theorem wnt_tup {H : Hp} {m : List Addr} {h : Hh} {xs : List Pv} {ys : List V} {p : Addr} {Q : VK} (hr : HR G H m h) (w : Wnt G H m (some (.tup xs, h)) Q) (r : RVs G H m xs ys) (np : H p = none) : Q (.ref p) (upd H p (.tup ys)) := by
  obtain ⟨a, b, c⟩ := newT hr r np
  exact w _ _ _ b a c
theorem op_addO (hK : X.K = G.K) : OpR X (binaryOp .Add) (rO G addO) := by
  intro pins s σ' H x' y' u v Q I ru rv q
  obtain ⟨m, h, x, y, hr, rx, ry, w⟩ := q
  unfold addO at w
  split at w
  · cases (show x' = _ from rx); cases (show y' = _ from ry)
    exact op_add pins s σ' H _ _ u v Q I ru rv ⟨_, _, rfl, rfl, wnt_same hr w rfl⟩
  · split at w
    · rename_i hl
      cases (show x' = _ from rx); cases (show y' = _ from ry)
      exact op_add_str pins s σ' H _ _ u v Q I ru rv ⟨_, _, rfl, rfl, lim_ok hl, wnt_same hr w rfl⟩
    · exact w.elim
  · split at w
    · rename_i xs ys hl
      obtain ⟨p, ps, e1, s1, r1⟩ := rx
      obtain ⟨p', ps', e2, s2, r2⟩ := ry
      subst e1; subst e2
      refine op_catA pins s σ' H _ _ u v Q I ru rv ⟨p, p', ps, ps', rfl, rfl, hK ▸ s1.sq, hK ▸ s2.sq, ?_, fun z => ?_, fun z1 z => ?_, fun z1 z2 q nq => ?_⟩
      · rw [r1.length, r2.length]; exact lim_ok hl
      · subst z
        have : xs = [] := by
          have := r1.length
          exact List.eq_nil_of_length_eq_zero this.symm
        subst this
        exact wnt_same hr w ⟨p', ps', rfl, s2, r2⟩
      · subst z
        have : ys = [] := by
          have := r2.length
          exact List.eq_nil_of_length_eq_zero this.symm
        subst this
        rw [List.append_nil] at w
        exact wnt_same hr w ⟨p, ps, rfl, s1, r1⟩
      · exact wnt_tup hr w (RVs.app r1 r2) nq
    · exact w.elim
  · split at w
    · rename_i e1 e2
      split at w
      · rename_i hl
        obtain ⟨p, ps, m1, h1, r1⟩ := hr.lst e1
        obtain ⟨p', ps', m2, h2, r2⟩ := hr.lst e2
        have := rx.refp m1
        subst this
        have := ry.refp m2
        subst this
        exact op_cat pins s σ' H _ _ u v Q I ru rv ⟨p, p', ps, ps', rfl, rfl, h1, h2, by rw [r1.length, r2.length]; exact lim_ok hl, fun q nq => wnt_lst hr w (RVs.app r1 r2) nq⟩
      · exact w.elim
    · exact w.elim
  · exact w.elim
theorem op_subO : OpR X (binaryOp .Sub) (rO G subO) := by
  intro pins s σ' H x' y' u v Q I ru rv q
  obtain ⟨m, h, x, y, hr, rx, ry, w⟩ := q
  unfold subO at w
  split at w
  · cases (show x' = _ from rx); cases (show y' = _ from ry)
    exact op_sub pins s σ' H _ _ u v Q I ru rv ⟨_, _, rfl, rfl, wnt_same hr w rfl⟩
  · exact w.elim
theorem op_mulO : OpR X (binaryOp .Mult) (rO G mulO) := by
  intro pins s σ' H x' y' u v Q I ru rv q
  obtain ⟨m, h, x, y, hr, rx, ry, w⟩ := q
  unfold mulO at w
  split at w
  · split at w
    · rename_i hc
      cases (show x' = _ from rx); cases (show y' = _ from ry)
      rcases hc with hc | hc | hc
      · exact op_mulW pins s σ' H _ _ u v Q I ru rv ⟨_, _, rfl, rfl, hc, wnt_same hr w rfl⟩
      · exact op_mul pins s σ' H _ _ u v Q I ru rv ⟨_, _, rfl, rfl, .inl ⟨by omega, by omega⟩, wnt_same hr w rfl⟩
      · exact op_mul pins s σ' H _ _ u v Q I ru rv ⟨_, _, rfl, rfl, .inr ⟨by omega, by omega⟩, wnt_same hr w rfl⟩
    · exact w.elim
  · split at w
    · rename_i k _ xs e1
      split at w
      · rename_i hc
        obtain ⟨p, ps, m1, h1, r1⟩ := hr.lst e1
        have := rx.refp m1
        subst this
        cases (show y' = _ from ry)
        refine op_rep pins s σ' H _ _ u v Q I ru rv ⟨p, k, ps, rfl, rfl, h1, by omega, by omega, ?_, fun q nq => ?_⟩
        · rw [r1.length]
          refine lim_ok (Nat.le_trans (Nat.mul_le_mul hc.2.2 (show k.toNat ≤ 1000 by omega)) (by decide))
        · refine wnt_lst hr w ?_ nq
          have rep : ∀ n : Nat, RVs G H m (List.replicate n xs).flatten (List.replicate n ps).flatten := by
            intro n
            induction n with
            | zero => simp [RVs]
            | succ n ih =>
              rw [List.replicate_succ, List.replicate_succ, List.flatten_cons, List.flatten_cons]
              exact RVs.app r1 ih
          exact rep _
      · exact w.elim
    · exact w.elim
  · exact w.elim
theorem op_fdivO : OpR X (binaryOp .FloorDiv) (rO G fdivO) := by
  intro pins s σ' H x' y' u v Q I ru rv q
  obtain ⟨m, h, x, y, hr, rx, ry, w⟩ := q
  unfold fdivO at w
  split at w
  · split at w
    · rename_i hc
      cases (show x' = _ from rx); cases (show y' = _ from ry)
      exact op_fdivW pins s σ' H _ _ u v Q I ru rv ⟨_, _, rfl, rfl, hc, wnt_same hr w rfl⟩
    · exact w.elim
  · exact w.elim
theorem op_modO : OpR X (binaryOp .Mod) (rO G modO) := by
  intro pins s σ' H x' y' u v Q I ru rv q
  obtain ⟨m, h, x, y, hr, rx, ry, w⟩ := q
  unfold modO at w
  split at w
  · split at w
    · rename_i hc
      cases (show x' = _ from rx); cases (show y' = _ from ry)
      exact op_mod pins s σ' H _ _ u v Q I ru rv ⟨_, _, rfl, rfl, hc, wnt_same hr w rfl⟩
    · exact w.elim
  · exact w.elim
theorem op_powO : OpR X (binaryOp .Pow) (rO G powO) := by
  intro pins s σ' H x' y' u v Q I ru rv q
  obtain ⟨m, h, x, y, hr, rx, ry, w⟩ := q
  unfold powO at w
  split at w
  · split at w
    · rename_i hc
      cases (show x' = _ from rx); cases (show y' = _ from ry)
      exact op_pow pins s σ' H _ _ u v Q I ru rv ⟨_, _, rfl, rfl, ⟨hc.1, by omega, hc.2.2⟩, wnt_same hr w rfl⟩
    · exact w.elim
  · exact w.elim
theorem op_ltO : OpR X (compareOp .Lt) (rO G ltO) := by
  intro pins s σ' H x' y' u v Q I ru rv q
  obtain ⟨m, h, x, y, hr, rx, ry, w⟩ := q
  unfold ltO at w
  split at w
  · cases (show x' = _ from rx); cases (show y' = _ from ry)
    exact op_lt pins s σ' H _ _ u v Q I ru rv ⟨_, _, rfl, rfl, wnt_same hr w rfl⟩
  · cases (show x' = _ from rx); cases (show y' = _ from ry)
    exact op_lt_str pins s σ' H _ _ u v Q I ru rv ⟨_, _, rfl, rfl, wnt_same hr w rfl⟩
  · exact w.elim
theorem op_gtO : OpR X (compareOp .Gt) (rO G gtO) := by
  intro pins s σ' H x' y' u v Q I ru rv q
  obtain ⟨m, h, x, y, hr, rx, ry, w⟩ := q
  unfold gtO at w
  split at w
  · cases (show x' = _ from rx); cases (show y' = _ from ry)
    exact op_gt pins s σ' H _ _ u v Q I ru rv ⟨_, _, rfl, rfl, wnt_same hr w rfl⟩
  · exact w.elim
theorem op_leO : OpR X (compareOp .LtE) (rO G leO) := by
  intro pins s σ' H x' y' u v Q I ru rv q
  obtain ⟨m, h, x, y, hr, rx, ry, w⟩ := q
  unfold leO at w
  split at w
  · cases (show x' = _ from rx); cases (show y' = _ from ry)
    exact op_le pins s σ' H _ _ u v Q I ru rv ⟨_, _, rfl, rfl, wnt_same hr w rfl⟩
  · exact w.elim
theorem op_geO : OpR X (compareOp .GtE) (rO G geO) := by
  intro pins s σ' H x' y' u v Q I ru rv q
  obtain ⟨m, h, x, y, hr, rx, ry, w⟩ := q
  unfold geO at w
  split at w
  · cases (show x' = _ from rx); cases (show y' = _ from ry)
    exact op_ge pins s σ' H _ _ u v Q I ru rv ⟨_, _, rfl, rfl, wnt_same hr w rfl⟩
  · exact w.elim
theorem un_negO : UnR X (unaryOp .USub) (rU1 G negO) := by
  intro pins s σ' H x' u Q I ru q
  obtain ⟨m, h, x, hr, rx, w⟩ := q
  unfold negO at w
  split at w
  · cases (show x' = _ from rx)
    exact un_neg pins s σ' H _ u Q I ru ⟨_, rfl, wnt_same hr w rfl⟩
  · exact w.elim
theorem RV.non_iff {H : Hp} {m : List Addr} {x : Pv} {x' : V} (r : RV G H m x x') : x' = .non ↔ x = .non := by
  cases x with
  | non => simp [show x' = .non from r]
  | bl b => simp [show x' = .bl b from r]
  | int b => simp [show x' = .int b from r]
  | str b => simp [show x' = .str b from r]
  | ty b => simp [show x' = .ty b from r]
  | ref a => obtain ⟨p, e, _⟩ := r; simp [e]
  | scr a => obtain ⟨p, e, _⟩ := r; simp [e]
  | tup a => obtain ⟨p, _, e, _⟩ := r; simp [e]
theorem op_isO : OpR X (compareOp .Is) (rO G isNoneO) := by
  intro pins s σ' H x' y' u v Q I ru rv q
  obtain ⟨m, h, x, y, hr, rx, ry, w⟩ := q
  unfold isNoneO at w
  split at w
  · cases (show y' = _ from ry)
    refine op_isN pins s σ' H _ _ u v Q I ru rv ⟨rfl, ?_⟩
    split at w
    · rw [decide_eq_true (rx.non_iff.mpr rfl)]; exact wnt_same hr w rfl
    · rename_i hx
      rw [decide_eq_false (fun z => hx (rx.non_iff.mp z))]; exact wnt_same hr w rfl
  · exact w.elim
theorem op_isNotO : OpR X (compareOp .IsNot) (rO G isNotO) := by
  intro pins s σ' H x' y' u v Q I ru rv q
  obtain ⟨m, h, x, y, hr, rx, ry, w⟩ := q
  unfold isNotO at w
  split at w
  · cases (show y' = _ from ry)
    refine op_notN pins s σ' H _ _ u v Q I ru rv ⟨rfl, ?_⟩
    split at w
    · rw [decide_eq_true (rx.non_iff.mpr rfl)]; exact wnt_same hr w rfl
    · rename_i hx
      rw [decide_eq_false (fun z => hx (rx.non_iff.mp z))]; exact wnt_same hr w rfl
  · exact w.elim
/-! ### in -/
/-- some item is equal: all are looked at -/
def anyP (f : Pv → Option Bool) : List Pv → Option Bool
  | [] => some false
  | x :: xs => match f x, anyP f xs with
    | some a, some b => some (a || b)
    | _, _ => none
/-- the one text within the other -/
def inS (i j : Str) : Bool := !(Builtin.Str.occurrences j i 0 j.length 1).isEmpty
def valP (kvs : List (Key × Pv)) (k : Key) : Option Pv := (kvs.find? fun kv => decide (kv.1 = k)).map (·.2)
def keyP : Pv → Option Key
  | .int i => some (.inl i)
  | .str x => some (.inr x)
  | _ => none
def inB (x y : Pv) (h : Hh) : Option Bool := match y with
  | .str j => match x with
    | .str i => some (inS i j)
    | _ => none
  | .tup ys => anyP (fun z => eqP h 40 z x) ys
  | .ref a => match h[a]? with
    | some (.lst ys) => anyP (fun z => eqP h 40 z x) ys
    | some (.dct kvs) => match keyP x with
      | some k => some (valP kvs k).isSome
      | none => none
    | _ => none
  | _ => none
def inO : OM := fun x y h => (inB x y h).map fun b => (.bl b, h)
def notInO : OM := fun x y h => (inB x y h).map fun b => (.bl (!b), h)
theorem anyP_at {f : Pv → Option Bool} : ∀ {xs : List Pv} {b : Bool}, anyP f xs = some b → ∃ e : Nat → Bool, (∀ j x, xs[j]? = some x → f x = some (e j)) ∧ b = (List.range xs.length).any e
  | [], b, h => ⟨fun _ => true, fun j x h1 => by simp at h1, by simp [anyP] at h; simp [← h]⟩
  | x :: xs, b, h => by
    unfold anyP at h
    split at h
    · rename_i p q h1 h2
      obtain ⟨e, he, eb⟩ := anyP_at h2
      have hb := Option.some.inj h
      refine ⟨fun j => if j = 0 then p else e (j - 1), fun j x' h3 => ?_, ?_⟩
      · cases j with
        | zero => simp at h3; subst h3; simpa using h1
        | succ j => simpa using he j x' (by simpa using h3)
      · rw [← hb, eb, List.length_cons, List.range_succ_eq_map]
        simp only [List.any_cons, List.any_map]
        have e1 : (List.range xs.length).any ((fun j => if j = 0 then p else e (j - 1)) ∘ Nat.succ) = (List.range xs.length).any e := by congr 1
        rw [e1]; simp
    · cases h
theorem key_rel {H : Hp} {m : List Addr} {x : Pv} {x' : V} {k : Key} (r : RV G H m x x') (e : keyP x = some k) : x' = kV k := by
  cases x with
  | int i => cases (show x' = _ from r); cases (Option.some.inj e); rfl
  | str i => cases (show x' = _ from r); cases (Option.some.inj e); rfl
  | _ => cases e
theorem valV_rel {H : Hp} {m : List Addr} {κ : Type} [DecidableEq κ] (k : κ) : ∀ {kvs : List (κ × Pv)} {ws : List (κ × V)}, RKs G H m kvs ws →
    ((kvs.find? fun kv => decide (kv.1 = k)).map (·.2) = none ∧ valV ws k = none) ∨ ∃ v v', (kvs.find? fun kv => decide (kv.1 = k)).map (·.2) = some v ∧ valV ws k = some v' ∧ RV G H m v v'
  | [], ws, ⟨h1, h2⟩ => by
    have : ws = [] := by simpa using h1
    subst this
    exact .inl ⟨rfl, rfl⟩
  | (k1, v1) :: kvs, ws, ⟨h1, h2⟩ => by
    cases ws with
    | nil => simp at h1
    | cons w ws =>
      obtain ⟨k2, v2⟩ := w
      simp only [List.map_cons, List.cons.injEq] at h1
      obtain ⟨y, zs, e, r, rs⟩ := h2
      simp only [List.map_cons, List.cons.injEq] at e
      obtain ⟨e1, e2⟩ := h1
      obtain ⟨e3, e4⟩ := e
      subst e3; subst e4
      cases (show k2 = k1 from e1)
      by_cases hk : k1 = k
      · refine .inr ⟨v1, v2, ?_, valV_pos hk, r⟩
        simp [hk]
      · have ih := valV_rel (H := H) (m := m) k (kvs := kvs) (ws := ws) ⟨e2, rs⟩
        rw [valV_neg (p := (k1, v2)) hk]
        simpa [hk] using ih
theorem inB_at (hK : X.K = G.K) (hu : X.A.units + 65 < cLine) {pins : List (Addr × Obj)} {s : Shared} {σ' : L2.St} {H : Hp} {m : List Addr} {h : Hh} {x y : Pv} {x' y' : V} {u v : Value} {b : Bool} (I : Inv X pins σ' H s) (hr : HR G H m h) (rx : RV G H m x x') (ry : RV G H m y y') (ru : RelV x' u) (rv : RelV y' v)
    (e : inB x y h = some b) (Q Q2 : Value → Shared → Prop) (hq : ∀ s', Inv X pins σ' H s' → Q (.bool b) s') (hq2 : ∀ s', Inv X pins σ' H s' → Q2 (.bool (!b)) s') :
    wpAny (model X.prog X.w) X.A (compareOp .In u v) Q X.xe s ∧ wpAny (model X.prog X.w) X.A (compareOp .NotIn u v) Q2 X.xe s := by
  have seq : ∀ {ys : List Pv} {ps : List V} {its : List Value}, RVs G H m ys ps → Vals ps its → anyP (fun z => eqP h 40 z x) ys = some b →
      ∃ e : Value → Bool, (∀ z, z ∈ its.toArray → SeqAt.EqAt X.A.in1 s z u (e z)) ∧ its.toArray.any e = b := by
    intro ys ps its rs vv hb
    obtain ⟨ee, he, eb⟩ := anyP_at hb
    have l1 := vv.length
    have l2 := rs.length
    have at' : ∀ (j : Nat) (hj : j < its.toArray.size), SeqAt.EqAt X.A.in1 s its.toArray[j] u (ee j) := fun j hj => by
      obtain ⟨x1, y1, a1, a2, a3⟩ := vals_at rs vv hj
      exact (eqP_at I hK hr 40 X.A.in1 x1 x y1 x' _ _ _ (by rw [in1_units]; omega) a2 rx a3 ru (he j x1 a1)).eq
    -- a function of the value: through the places, by choice of the least place
    classical
    let e : Value → Bool := fun z => if h : ∃ j, ∃ hj : j < its.toArray.size, its.toArray[j] = z then ee h.choose else false
    have same : ∀ (j : Nat) (hj : j < its.toArray.size), e its.toArray[j] = ee j := fun j hj => by
      have hx : ∃ i, ∃ hi : i < its.toArray.size, its.toArray[i] = its.toArray[j] := ⟨j, hj, rfl⟩
      have e1 : e its.toArray[j] = ee hx.choose := dif_pos hx
      obtain ⟨hi, q⟩ := hx.choose_spec
      rw [e1]
      obtain ⟨xa, ya, a1, a2, a3⟩ := vals_at rs vv hi
      obtain ⟨xb, yb, b1, b2, b3⟩ := vals_at rs vv hj
      have : ya = yb := by
        rw [q] at a3
        exact RelV.inj a3 b3
      subst this
      have := RV.inj I hK hr xa xb ya a2 b2
      subst this
      have z1 := he _ _ a1
      have z2 := he _ _ b1
      rw [z1] at z2
      exact Option.some.inj z2
    refine ⟨e, fun z hz => ?_, ?_⟩
    · obtain ⟨j, hj, q⟩ := Array.getElem_of_mem hz
      rw [← q, same j hj]
      exact at' j hj
    · rw [eb, Bool.eq_iff_iff, Array.any_eq_true, List.any_eq_true]
      constructor
      · rintro ⟨j, hj, q⟩
        refine ⟨j, List.mem_range.mpr ?_, ?_⟩
        · have : j < its.length := by simpa using hj
          omega
        · rw [same j hj] at q; exact q
      · rintro ⟨j, hj, q⟩
        have hj' : j < its.toArray.size := by
          have := List.mem_range.mp hj
          simp only [List.size_toArray]; omega
        exact ⟨j, hj', by rw [same j hj']; exact q⟩
  unfold inB at e
  split at e
  · split at e
    · cases (show x' = _ from rx); cases (show y' = _ from ry)
      obtain ⟨t, rfl⟩ := ru
      obtain ⟨t', rfl⟩ := rv
      have := Option.some.inj e
      subst this
      exact ⟨in_str (hq s I), notIn_str (hq2 s I)⟩
    · cases e
  · obtain ⟨p, ps, ey, sq, rs⟩ := ry
    subst ey
    cases (show v = Value.ref p from rv)
    obtain ⟨its, vv, ht, _⟩ := I.tuple (X := X) (hK ▸ sq.sq)
    obtain ⟨ee, h1, h2⟩ := seq rs vv e
    exact ⟨SeqAt.in_tupleAt ee ht h1 (by rw [h2]; exact hq s I), SeqAt.notIn_tupleAt ee ht h1 (by rw [h2]; exact hq2 s I)⟩
  · split at e
    · rename_i e1
      obtain ⟨p, ps, m1, h1, rs⟩ := hr.lst e1
      have := ry.refp m1
      subst this
      cases (show v = Value.ref p from rv)
      obtain ⟨its, vv, ht, _⟩ := I.list (X := X) (.inl (.inl h1))
      obtain ⟨ee, h1, h2⟩ := seq rs vv e
      exact ⟨SeqAt.in_listAt ee ht.isList h1 (by rw [h2]; exact hq s I), SeqAt.notIn_listAt ee ht.isList h1 (by rw [h2]; exact hq2 s I)⟩
    · rename_i kvs e1
      split at e
      · rename_i k ek
        obtain ⟨p, ps, m1, h1, rs⟩ := hr.dct e1
        have := ry.refp m1
        subst this
        cases (show v = Value.ref p from rv)
        cases (key_rel rx ek)
        have hb := Option.some.inj e
        have hsome : (valV ps k).isSome = b := by
          rw [← hb]
          unfold valP
          rcases valV_rel k rs with ⟨z1, z2⟩ | ⟨_, _, z1, z2, _⟩ <;> rw [z1, z2] <;> rfl
        have g := DGet.k (k := k) h1
        refine ⟨d_in (by omega) I g ru fun s' I' => by rw [hsome]; exact hq s' I', d_notIn (by omega) I g ru fun s' I' => by rw [hsome]; exact hq2 s' I'⟩
      · cases e
    · cases e
  · cases e
theorem op_inO (hK : X.K = G.K) (hu : X.A.units + 65 < cLine) : OpR X (compareOp .In) (rO G inO) := by
  intro pins s σ' H x' y' u v Q I ru rv q
  obtain ⟨m, h, x, y, hr, rx, ry, w⟩ := q
  unfold inO at w
  cases e : inB x y h with
  | none => rw [e] at w; exact w.elim
  | some b =>
    rw [e] at w
    exact (inB_at hK hu I hr rx ry ru rv e (EP X pins σ' Q) (fun _ _ => True) (fun s' I' => ⟨.bl b, H, I', rfl, wnt_same hr w rfl⟩) fun _ _ => trivial).1
theorem op_notInO (hK : X.K = G.K) (hu : X.A.units + 65 < cLine) : OpR X (compareOp .NotIn) (rO G notInO) := by
  intro pins s σ' H x' y' u v Q I ru rv q
  obtain ⟨m, h, x, y, hr, rx, ry, w⟩ := q
  unfold notInO at w
  cases e : inB x y h with
  | none => rw [e] at w; exact w.elim
  | some b =>
    rw [e] at w
    exact (inB_at hK hu I hr rx ry ru rv e (fun _ _ => True) (EP X pins σ' Q) (fun _ _ => trivial) fun s' I' => ⟨.bl (!b), H, I', rfl, wnt_same hr w rfl⟩).2
end
end Mi
namespace Mi
open PySem PySem.Spec PyProof.Rows L2
/-! ### subscripts -/
def ixO : OM := fun x y h => match x, y with
  | .scr ns, .int i => (atI ns i).map fun n => (.int n, h)
  | .tup xs, .int i => (atI xs i).map fun v => (v, h)
  | .str z, .int i => if z.length ≤ 1000000 then (atI z.cps.toList i).map fun c => (.str ⟨#[c]⟩, h) else none
  | .ref a, k => match h[a]? with
    | some (.lst xs) => match k with
      | .int i => (atI xs i).map fun v => (v, h)
      | _ => none
    | some (.dct kvs) => match keyP k with
      | some k => (valP kvs k).map fun v => (v, h)
      | none => none
    | _ => none
  | _, _ => none
def cutP (xs : List Pv) (lo hi : Option Int) : List Pv := (xs.drop (HT.sIx xs.length 0 lo)).take (HT.sIx xs.length xs.length hi - HT.sIx xs.length 0 lo)
section
variable {G : Gm} {X : Cx} {W : WX'} {pos p2 apos cpos : Pos} {a b c e o : Expr} {ca cb cc ce co : EM}
theorem atI_rel {H : Hp} {m : List Addr} {xs : List Pv} {ys : List V} {i : Int} {v : Pv} (r : RVs G H m xs ys) (e : atI xs i = some v) : ∃ v', atI ys i = some v' ∧ RV G H m v v' := by
  unfold atI at e ⊢
  rw [r.length]
  cases q : ixN xs.length i with
  | none => rw [q] at e; cases e
  | some j =>
    rw [q] at e
    obtain ⟨y, h1, h2⟩ := r.get (show xs[j]? = some v from e)
    exact ⟨y, h1, h2⟩
theorem atI_map {α β : Type} {f : α → β} {xs : List α} {i : Int} {v : α} (e : atI xs i = some v) : atI (xs.map f) i = some (f v) := by
  unfold atI at e ⊢
  rw [List.length_map]
  cases q : ixN xs.length i with
  | none => rw [q] at e; cases e
  | some j =>
    rw [q] at e
    show (xs.map f)[j]? = _
    rw [List.getElem?_map, show xs[j]? = some v from e]; rfl
theorem wnt_map {α : Type} {H : Hp} {m : List Addr} {o : Option α} {f : α → Pv × Hh} {Q : VK} (w : Wnt G H m (o.map f) Q) : ∃ a, o = some a ∧ Wnt G H m (some (f a)) Q := by
  cases o with
  | none => exact w.elim
  | some a => exact ⟨a, rfl, w⟩
theorem ix_O (hK : X.K = G.K) (hu : X.A.units + 65 < cLine) : IxR X (rO G ixO) := by
  intro value slice pins s σ' H x' y' u v Q I ru rv q hs
  obtain ⟨m, h, x, y, hr, rx, ry, w⟩ := q
  unfold ixO at w
  split at w
  · obtain ⟨n, e, w⟩ := wnt_map w
    obtain ⟨p, ex, f⟩ := rx
    subst ex
    cases (show y' = _ from ry)
    exact ix_list value slice pins s σ' H _ _ u v Q I ru rv ⟨p, _, _, _, rfl, rfl, hK ▸ f.sq, atI_map e, wnt_same hr w rfl⟩ hs
  · obtain ⟨n, e, w⟩ := wnt_map w
    obtain ⟨p, ps, ex, f, rs⟩ := rx
    subst ex
    cases (show y' = _ from ry)
    obtain ⟨v', e2, r2⟩ := atI_rel rs e
    exact ix_tup value slice pins s σ' H _ _ u v Q I ru rv ⟨p, _, _, _, rfl, rfl, hK ▸ f.sq, e2, wnt_same hr w r2⟩ hs
  · split at w
    · rename_i hl
      obtain ⟨n, e, w⟩ := wnt_map w
      cases (show x' = _ from rx)
      cases (show y' = _ from ry)
      exact ix_str value slice pins s σ' H _ _ u v Q I ru rv ⟨_, _, _, rfl, rfl, lim_ok hl, e, wnt_same hr w rfl⟩ hs
    · exact w.elim
  · split at w
    · rename_i e1
      split at w
      · obtain ⟨n, e, w⟩ := wnt_map w
        obtain ⟨p, ps, m1, h1, rs⟩ := hr.lst e1
        have := rx.refp m1
        subst this
        cases (show y' = _ from ry)
        obtain ⟨v', e2, r2⟩ := atI_rel rs e
        exact ix_list value slice pins s σ' H _ _ u v Q I ru rv ⟨p, _, _, _, rfl, rfl, .inl (.inl h1), e2, wnt_same hr w r2⟩ hs
      · exact w.elim
    · rename_i kvs e1
      split at w
      · rename_i k ek
        obtain ⟨n, e, w⟩ := wnt_map w
        obtain ⟨p, ps, m1, h1, rs⟩ := hr.dct e1
        have := rx.refp m1
        subst this
        cases (key_rel ry ek)
        cases (show u = Value.ref p from ru)
        have g := DGet.k (k := k) h1
        rcases valV_rel k rs with ⟨z1, z2⟩ | ⟨v1, v1', z1, z2, z3⟩
        · unfold valP at e; rw [z1] at e; cases e
        · unfold valP at e; rw [z1] at e; cases e
          rw [z2] at g
          exact tail_any (dict_typeIs I g) PySem.F.slot_dict_getitem.lookup (d_getItem (by omega) I g rv fun w' s3 I3 rw' => ⟨v1', H, I3, rw', wnt_same hr w z3⟩) hs
      · exact w.elim
    · exact w.elim
  · exact w.elim
theorem me_ix (hK : X.K = G.K) (hu : X.A.units + 65 < cLine) (ha : ME G X W a ca) (hb : ME G X W b cb) (hs : PlainIx b := by exact fun _ _ => rfl) : ME G X W (.Subscript a b pos) (e2 ixO ca cb) :=
  PE.weak (pe_ix (ix_O hK hu) ha hb hs) fun σ' H Q q => by
    obtain ⟨m, σ, h, r, s⟩ := q
    exact two_in r s
/-! ### slices -/
def slO (x : Pv) (lo hi : Option Int) (h : Hh) : Option (Pv × Hh) := match x with
  | .tup xs => some (.tup (cutP xs lo hi), h)
  | .str z => if z.length ≤ 1000000 then some (.str (cutS z lo hi), h) else none
  | .ref a => match h[a]? with
    | some (.lst xs) => some (.ref h.length, h ++ [.lst (cutP xs lo hi)])
    | _ => none
  | _ => none
/-- a bound of a slice -/
def eO : Option EM → Sg → Hh → Rs (Option Int)
  | none, _, h => .ok none h
  | some c, σ, h => (c σ h).bind fun x h1 => match x with
    | .int i => .ok (some i) h1
    | _ => .bad
def eSl (a : EM) (lo hi : Option EM) : EM := fun σ h => (a σ h).bind fun x h1 => (eO lo σ h1).bind fun l h2 => (eO hi σ h2).bind fun u h3 => Rs.of (slO x l u h3)
def tO (G : Gm) (W : WX') (c : Option EM) : TO := fun σ' H Q => ∃ m σ h, Rel G H m h σ σ' ∧
  Sat (eO c σ h) (fun v h' => ∀ m' H', Gr G H m H' m' → HR G H' m' h' → Q v H') (EX G W H m σ')
theorem tO.of {H : Hp} {m : List Addr} {h : Hh} {σ : Sg} {σ' : L2.St} {c : Option EM} {Q : Option Int → Hp → Prop} {P : Option Int → Hh → Prop} {E : Nat → List (Str × Pv) → Hh → Prop} (r : Rel G H m h σ σ') (s : Sat (eO c σ h) P E) (he : ∀ c fs h, E c fs h → EX G W H m σ' c fs h)
    (k : ∀ v h' m' H', P v h' → Gr G H m H' m' → Rel G H' m' h' σ σ' → Q v H') : tO G W c σ' H Q :=
  ⟨m, σ, h, r, s.mono (fun v h' p m' H' g q => k v h' m' H' p g (r.gr g q)) he⟩
theorem mo_none : PO X none (tO G W none) := ⟨fun pins s σ H Q I h => (po_none (X := X)).run pins s σ H Q I (by
  obtain ⟨m, σ, h, r, s⟩ := h
  exact s m H Gr.refl r.hr)⟩
theorem mo_some (h : ME G X W e ce) : PO X (some e) (tO G W (some ce)) := ⟨fun pins s σ' H Q I q => (po_some h).run pins s σ' H Q I (by
  obtain ⟨m, σ, h, r, s⟩ := q
  unfold eO at s
  rw [sat_bind] at s
  refine tE.of r s (fun _ _ _ e => e) fun x h1 m1 H1 x' s1 g1 r1 rx => ?_
  cases x with
  | int i => exact ⟨i, rx, s1 m1 H1 g1 r1.hr⟩
  | _ => exact s1.elim)⟩
def rSl (G : Gm) : V → Option Int → Option Int → Hp → VK → Prop := fun x' lo hi H Q => ∃ m h x, HR G H m h ∧ RV G H m x x' ∧ Wnt G H m (slO x lo hi h) Q
theorem cut_rel {H : Hp} {m : List Addr} {xs : List Pv} {ys : List V} (lo hi : Option Int) (r : RVs G H m xs ys) : RVs G H m (cutP xs lo hi) (cutV ys lo hi) := by
  unfold cutP cutV
  rw [r.length]
  exact RVs.take _ (RVs.drop _ r)
theorem sl_O (hK : X.K = G.K) : SlR X (rSl G) := by
  intro pins s σ' H x' v vl vu lo hi sl Q I rv hs pl pu q
  have key : rSlA X.K x' lo hi H Q ∨ rSlS x' lo hi H Q ∨ rSlL X.K x' lo hi H Q := by
    obtain ⟨m, h, x, hr, rx, w⟩ := q
    unfold slO at w
    split at w
    · rename_i xs
      obtain ⟨p, ps, ex, f, rs⟩ := rx
      refine .inl ⟨p, ps, ex, hK ▸ f.sq, fun z => ?_, fun z q nq => wnt_tup hr w (cut_rel lo hi rs) nq⟩
      have : cutP xs lo hi = xs := by
        unfold cutP
        rw [← rs.length, z.1, z.2]
        simp only [List.drop_zero, Nat.sub_zero]
        rw [rs.length]
        exact List.take_length
      rw [this] at w
      exact wnt_same hr w ⟨p, ps, rfl, f, rs⟩
    · split at w
      · rename_i hl
        exact .inr (.inl ⟨_, rx, lim_ok hl, wnt_same hr w rfl⟩)
      · exact w.elim
    · split at w
      · rename_i e1
        obtain ⟨p, ps, m1, h1, rs⟩ := hr.lst e1
        exact .inr (.inr ⟨p, ps, rx.refp m1, .inl (.inl h1), fun q nq => wnt_lst hr w (cut_rel lo hi rs) nq⟩)
      · exact w.elim
    · exact w.elim
  exact ((sl_tupA (X := X)).or ((sl_str (X := X)).or (sl_list (X := X)))) pins s σ' H x' v vl vu lo hi sl Q I rv hs pl pu key
theorem me_slice {lo hi : Option Expr} {cl cu : Option EM} (hK : X.K = G.K) (ha : ME G X W a ca) (hl : PO X lo (tO G W cl)) (hu : PO X hi (tO G W cu)) : ME G X W (.Subscript a (.Slice lo hi none p2) pos) (eSl ca cl cu) :=
  PE.weak (pe_slice (sl_O hK) ha hl hu) fun σ' H Q q => by
    obtain ⟨m, σ, h, r, s⟩ := q
    unfold eSl at s
    rw [sat_bind] at s
    refine tE.of r s (fun _ _ _ e => e) fun x h1 m1 H1 x' s1 g1 r1 rx => ?_
    rw [sat_bind] at s1
    refine tO.of r1 s1 (fun _ _ _ e => e.gr g1) fun l h2 m2 H2 s2 g2 r2 => ?_
    rw [sat_bind] at s2
    refine tO.of r2 s2 (fun _ _ _ e => e.gr (g1.trans g2)) fun u h3 m3 H3 s3 g3 r3 => ?_
    exact ⟨m3, h3, x, r3.hr, RV.gr (g2.trans g3) _ _ rx, (wnt_of s3).gr (g1.trans (g2.trans g3))⟩
end
end Mi
namespace Mi
open PySem PySem.Spec PyProof.Rows L2
/-! ### built-in functions by values -/
def lenO : LM := fun xs h => match xs with
  | [.str z] => if z.length ≤ 1000000 then some (.int z.length, h) else none
  | [.tup ys] => some (.int ys.length, h)
  | [.scr ns] => some (.int ns.length, h)
  | [.ref a] => match h[a]? with
    | some (.lst ys) => some (.int ys.length, h)
    | some (.dct kvs) => some (.int kvs.length, h)
    | _ => none
  | _ => none
def intO : LM := fun xs h => match xs with
  | [.int i] => some (.int i, h)
  | [.bl b] => some (.int (if b then 1 else 0), h)
  | _ => none
def absO : LM := fun xs h => match xs with
  | [.int i] => some (.int (if i < 0 then -i else i), h)
  | _ => none
def maxO : LM := fun xs h => match xs with
  | [.int i, .int j] => some (.int (if j > i then j else i), h)
  | _ => none
def minO : LM := fun xs h => match xs with
  | [.int i, .int j] => some (.int (if j < i then j else i), h)
  | _ => none
def listO : LM := fun xs h => match xs with
  | [.tup ys] => some (.ref h.length, h ++ [.lst ys])
  | [.ref a] => match h[a]? with
    | some (.lst ys) => some (.ref h.length, h ++ [.lst ys])
    | _ => none
  | _ => none
def blsP : List Pv → Option (List Bool)
  | [] => some []
  | .bl b :: xs => (blsP xs).map (b :: ·)
  | _ => none
def intsP : List Pv → Option (List Int)
  | [] => some []
  | .int b :: xs => (intsP xs).map (b :: ·)
  | _ => none
def strsP : List Pv → Option (List Str)
  | [] => some []
  | .str b :: xs => (strsP xs).map (b :: ·)
  | _ => none
def allO : LM := fun xs h => match xs with
  | [.ref a] => match h[a]? with
    | some (.lst ys) => (blsP ys).map fun bs => (.bl (bs.all id), h)
    | _ => none
  | _ => none
def anyO : LM := fun xs h => match xs with
  | [.ref a] => match h[a]? with
    | some (.lst ys) => (blsP ys).map fun bs => (.bl (bs.any id), h)
    | _ => none
  | _ => none
def sumO : LM := fun xs h => match xs with
  | [.ref a] => match h[a]? with
    | some (.lst ys) => (intsP ys).map fun ns => (.int ns.sum, h)
    | _ => none
  | _ => none
/-- texts in order -/
def leS (a b : Str) : Bool := decide (a.cps.toList ≤ b.cps.toList)
def ssort (xs : List Str) : List Str := xs.mergeSort leS
def sortedO : LM := fun xs h => match xs with
  | [.ref a] => match h[a]? with
    | some (.lst ys) => match strsP ys with
      | some zs => if zs.length < 64 then some (.ref h.length, h ++ [.lst ((ssort zs).map .str)]) else none
      | none => none
    | _ => none
  | _ => none
/-- the built-in type of a value -/
def tyP (h : Hh) : Pv → Option String
  | .non => some "NoneType"
  | .bl _ => some "bool"
  | .int _ => some "int"
  | .str _ => some "str"
  | .tup _ => some "tuple"
  | .scr _ => some "list"
  | .ref a => match h[a]? with
    | some (.lst _) => some "list"
    | some (.dct _) => some "dict"
    | _ => none
  | _ => none
def isiB (a b : String) : Bool := a == b || (a == "bool" && b == "int")
def isiO (T : String) : LM := fun xs h => match xs with
  | [x, .ty t] => if t = T then (tyP h x).map fun a => (.bl (isiB a T), h) else none
  | _ => none
section
variable {G : Gm} {X : Cx} {W : WX'} {pos p2 apos cpos : Pos} {a b c e o : Expr} {es : List Expr} {ca cb cc ce co : EM} {cs : AM}
theorem RVs.of1 {H : Hp} {m : List Addr} {x : Pv} {ys : List V} (r : RVs G H m [x] ys) : ∃ y, ys = [y] ∧ RV G H m x y := by
  obtain ⟨y, zs, e, r1, r2⟩ := r
  have : zs = [] := r2
  subst this
  exact ⟨y, e, r1⟩
theorem RVs.of2 {H : Hp} {m : List Addr} {x x2 : Pv} {ys : List V} (r : RVs G H m [x, x2] ys) : ∃ y y2, ys = [y, y2] ∧ RV G H m x y ∧ RV G H m x2 y2 := by
  obtain ⟨y, zs, e, r1, r2⟩ := r
  obtain ⟨y2, e2, r3⟩ := RVs.of1 r2
  subst e2
  exact ⟨y, y2, e, r1, r3⟩
theorem me_callB {x : Str} {p : Pos} {id : String} {o : LM} (hc : CallR X (.builtin id) (rL G o)) (hg : Gl X x) (hm : X.mg x = none) (hv : bootBuiltins x = some (.builtin id)) (ha : MA G X W (e :: es) cs) (hn : x ≠ "__name__" := by decide) (hdb : (x == ("__debug__" : Str)) = false := by decide)
    (hs : starEach (e :: es) X.env = (false, eval e X.env) :: starEach es X.env := by rfl) (hs2 : ((backTo pos (starEach es X.env)).any fun x => x.fst) = false := by rfl) : ME G X W (.Call (.Name x p) (e :: es) [] pos) (eL o cs) :=
  PE.weak (pe_callB hc hg hm hv ha hn hdb hs hs2) fun σ' H Q q => by
    obtain ⟨m, σ, h, r, s⟩ := q
    exact args_in r s
theorem me_callTy {x : Str} {p : Pos} {T : String} {o : LM} (hc : CallR X (.type T) (rL G o)) (hg : Gl X x) (hm : X.mg x = none) (hv : bootBuiltins x = some (.type T)) (ha : MA G X W (e :: es) cs) (hn : x ≠ "__name__" := by decide) (hdb : (x == ("__debug__" : Str)) = false := by decide)
    (hs : starEach (e :: es) X.env = (false, eval e X.env) :: starEach es X.env := by rfl) (hs2 : ((backTo pos (starEach es X.env)).any fun x => x.fst) = false := by rfl) : ME G X W (.Call (.Name x p) (e :: es) [] pos) (eL o cs) :=
  PE.weak (pe_callTy hc hg hm hv ha hn hdb hs hs2) fun σ' H Q q => by
    obtain ⟨m, σ, h, r, s⟩ := q
    exact args_in r s
theorem cr_lenO (hK : X.K = G.K) : CallR X (.builtin "len") (rL G lenO) := by
  intro pins s σ' H xs' us Q I ru q
  obtain ⟨m, h, xs, hr, rx, w⟩ := q
  unfold lenO at w
  split at w
  · split at w
    · rename_i hl
      obtain ⟨y, rfl, r1⟩ := rx.of1
      cases (show y = _ from r1)
      exact call_len pins s σ' H _ us Q I ru ⟨_, _, rfl, ⟨lim_ok hl, rfl⟩, wnt_same hr w rfl⟩
    · exact w.elim
  · obtain ⟨y, rfl, r1⟩ := rx.of1
    obtain ⟨p, ps, ey, f, rs⟩ := r1
    subst ey
    exact call_len pins s σ' H _ us Q I ru ⟨_, _, rfl, .inr ⟨ps, hK ▸ f.sq, rs.length.symm⟩, wnt_same hr w rfl⟩
  · obtain ⟨y, rfl, r1⟩ := rx.of1
    obtain ⟨p, ey, f⟩ := r1
    subst ey
    exact call_len pins s σ' H _ us Q I ru ⟨_, _, rfl, .inl ⟨_, hK ▸ f.sq, by rw [List.length_map]⟩, wnt_same hr w rfl⟩
  · obtain ⟨y, rfl, r1⟩ := rx.of1
    split at w
    · rename_i e1
      obtain ⟨p, ps, m1, h1, rs⟩ := hr.lst e1
      have := r1.refp m1
      subst this
      exact call_len pins s σ' H _ us Q I ru ⟨_, _, rfl, .inl ⟨ps, .inl (.inl h1), rs.length.symm⟩, wnt_same hr w rfl⟩
    · rename_i kvs e1
      obtain ⟨p, ps, m1, h1, rs⟩ := hr.dct e1
      have := r1.refp m1
      subst this
      obtain ⟨u, rfl, ru1⟩ := Vals.one ru
      cases (show u = Value.ref p from ru1)
      refine d_len I (.inl h1) fun t s' I' => ⟨.int kvs.length, H, I', ⟨t, ?_⟩, wnt_same hr w rfl⟩
      have : ps.length = kvs.length := by
        have := congrArg List.length rs.1
        simpa using this
      rw [this]
    · exact w.elim
  · exact w.elim
theorem cr_intO : CallR X (.type "int") (rL G intO) := by
  intro pins s σ' H xs' us Q I ru q
  obtain ⟨m, h, xs, hr, rx, w⟩ := q
  unfold intO at w
  split at w
  · obtain ⟨y, rfl, r1⟩ := rx.of1
    cases (show y = _ from r1)
    exact call_int1 pins s σ' H _ us Q I ru (.inl ⟨_, rfl, wnt_same hr w rfl⟩)
  · obtain ⟨y, rfl, r1⟩ := rx.of1
    cases (show y = _ from r1)
    exact call_int1 pins s σ' H _ us Q I ru (.inr ⟨_, rfl, wnt_same hr w rfl⟩)
  · exact w.elim
theorem cr_absO : CallR X (.builtin "abs") (rL G absO) := by
  intro pins s σ' H xs' us Q I ru q
  obtain ⟨m, h, xs, hr, rx, w⟩ := q
  unfold absO at w
  split at w
  · obtain ⟨y, rfl, r1⟩ := rx.of1
    cases (show y = _ from r1)
    exact call_abs pins s σ' H _ us Q I ru ⟨_, rfl, wnt_same hr w rfl⟩
  · exact w.elim
theorem cr_maxO (hc : X.calm = true) : CallR X (.builtin "max") (rL G maxO) := by
  intro pins s σ' H xs' us Q I ru q
  obtain ⟨m, h, xs, hr, rx, w⟩ := q
  unfold maxO at w
  split at w
  · obtain ⟨y, y2, rfl, r1, r2⟩ := rx.of2
    cases (show y = _ from r1)
    cases (show y2 = _ from r2)
    exact call_max2 hc pins s σ' H _ us Q I ru ⟨_, _, rfl, wnt_same hr w rfl⟩
  · exact w.elim
theorem cr_minO (hc : X.calm = true) : CallR X (.builtin "min") (rL G minO) := by
  intro pins s σ' H xs' us Q I ru q
  obtain ⟨m, h, xs, hr, rx, w⟩ := q
  unfold minO at w
  split at w
  · obtain ⟨y, y2, rfl, r1, r2⟩ := rx.of2
    cases (show y = _ from r1)
    cases (show y2 = _ from r2)
    exact call_min2 hc pins s σ' H _ us Q I ru ⟨_, _, rfl, wnt_same hr w rfl⟩
  · exact w.elim
theorem cr_listO (hK : X.K = G.K) : CallR X (.type "list") (rL G listO) := by
  intro pins s σ' H xs' us Q I ru q
  obtain ⟨m, h, xs, hr, rx, w⟩ := q
  unfold listO at w
  split at w
  · obtain ⟨y, rfl, r1⟩ := rx.of1
    obtain ⟨p, ps, ey, f, rs⟩ := r1
    subst ey
    exact call_list_of pins s σ' H _ us Q I ru ⟨p, ps, rfl, .inr (hK ▸ f.sq), fun l nl => wnt_lst hr w rs nl⟩
  · obtain ⟨y, rfl, r1⟩ := rx.of1
    split at w
    · rename_i e1
      obtain ⟨p, ps, m1, h1, rs⟩ := hr.lst e1
      have := r1.refp m1
      subst this
      exact call_list_of pins s σ' H _ us Q I ru ⟨p, ps, rfl, .inl (.inl (.inl h1)), fun l nl => wnt_lst hr w rs nl⟩
    · exact w.elim
  · exact w.elim
theorem bls_rel {H : Hp} {m : List Addr} : ∀ {xs : List Pv} {ys : List V} {bs : List Bool}, RVs G H m xs ys → blsP xs = some bs → ys = bs.map V.bl
  | [], ys, bs, r, e => by
    cases (Option.some.inj e)
    exact r
  | x :: xs, _, bs, ⟨y, zs, e1, r, rs⟩, e => by
    cases x with
    | bl b =>
      simp only [blsP, Option.map_eq_some_iff] at e
      obtain ⟨cs, e2, e3⟩ := e
      subst e3; subst e1
      rw [bls_rel rs e2, show y = _ from r]; rfl
    | _ => simp [blsP] at e
theorem ints_rel {H : Hp} {m : List Addr} : ∀ {xs : List Pv} {ys : List V} {bs : List Int}, RVs G H m xs ys → intsP xs = some bs → ys = bs.map V.int
  | [], ys, bs, r, e => by
    cases (Option.some.inj e)
    exact r
  | x :: xs, _, bs, ⟨y, zs, e1, r, rs⟩, e => by
    cases x with
    | int b =>
      simp only [intsP, Option.map_eq_some_iff] at e
      obtain ⟨cs, e2, e3⟩ := e
      subst e3; subst e1
      rw [ints_rel rs e2, show y = _ from r]; rfl
    | _ => simp [intsP] at e
theorem strs_rel {H : Hp} {m : List Addr} : ∀ {xs : List Pv} {ys : List V} {bs : List Str}, RVs G H m xs ys → strsP xs = some bs → ys = bs.map V.str
  | [], ys, bs, r, e => by
    cases (Option.some.inj e)
    exact r
  | x :: xs, _, bs, ⟨y, zs, e1, r, rs⟩, e => by
    cases x with
    | str b =>
      simp only [strsP, Option.map_eq_some_iff] at e
      obtain ⟨cs, e2, e3⟩ := e
      subst e3; subst e1
      rw [strs_rel rs e2, show y = _ from r]; rfl
    | _ => simp [strsP] at e
theorem rvs_strs {H : Hp} {m : List Addr} : ∀ (bs : List Str), RVs G H m (bs.map Pv.str) (bs.map V.str)
  | [] => rfl
  | b :: bs => ⟨.str b, bs.map V.str, rfl, rfl, rvs_strs bs⟩
theorem cr_allO (hK : X.K = G.K) (hc : X.calm = true) : CallR X (.builtin "all") (rL G allO) := by
  intro pins s σ' H xs' us Q I ru q
  obtain ⟨m, h, xs, hr, rx, w⟩ := q
  unfold allO at w
  split at w
  · obtain ⟨y, rfl, r1⟩ := rx.of1
    split at w
    · rename_i e1
      obtain ⟨bs, eb, w⟩ := wnt_map w
      obtain ⟨p, ps, m1, h1, rs⟩ := hr.lst e1
      have := r1.refp m1
      subst this
      have := bls_rel rs eb
      subst this
      exact cr_all hc pins s σ' H _ us Q I ru ⟨p, bs, rfl, .inl (.inl h1), wnt_same hr w rfl⟩
    · exact w.elim
  · exact w.elim
theorem cr_anyO (hK : X.K = G.K) (hc : X.calm = true) : CallR X (.builtin "any") (rL G anyO) := by
  intro pins s σ' H xs' us Q I ru q
  obtain ⟨m, h, xs, hr, rx, w⟩ := q
  unfold anyO at w
  split at w
  · obtain ⟨y, rfl, r1⟩ := rx.of1
    split at w
    · rename_i e1
      obtain ⟨bs, eb, w⟩ := wnt_map w
      obtain ⟨p, ps, m1, h1, rs⟩ := hr.lst e1
      have := r1.refp m1
      subst this
      have := bls_rel rs eb
      subst this
      exact cr_any hc pins s σ' H _ us Q I ru ⟨p, bs, rfl, .inl (.inl h1), wnt_same hr w rfl⟩
    · exact w.elim
  · exact w.elim
theorem cr_sumO (hK : X.K = G.K) (hc : X.calm = true) : CallR X (.builtin "sum") (rL G sumO) := by
  intro pins s σ' H xs' us Q I ru q
  obtain ⟨m, h, xs, hr, rx, w⟩ := q
  unfold sumO at w
  split at w
  · obtain ⟨y, rfl, r1⟩ := rx.of1
    split at w
    · rename_i e1
      obtain ⟨bs, eb, w⟩ := wnt_map w
      obtain ⟨p, ps, m1, h1, rs⟩ := hr.lst e1
      have := r1.refp m1
      subst this
      have := ints_rel rs eb
      subst this
      exact cr_sum hc pins s σ' H _ us Q I ru ⟨p, bs, rfl, .inl (.inl h1), wnt_same hr w rfl⟩
    · exact w.elim
  · exact w.elim
theorem leS_trans (a b c : Str) : leS a b = true → leS b c = true → leS a c = true := by
  unfold leS
  simp only [decide_eq_true_eq]
  exact fun h1 h2 => List.le_trans h1 h2
theorem leS_total (a b : Str) : (leS a b || leS b a) = true := by
  unfold leS
  simp only [Bool.or_eq_true, decide_eq_true_eq]
  exact List.le_total _ _
theorem str_ext {a b : Str} (h : a.cps.toList = b.cps.toList) : a = b := by
  cases a with
  | mk a => cases b with
    | mk b =>
      have : a = b := by
        cases a; cases b; simpa using h
      rw [this]
theorem leS_anti (a b : Str) (h1 : leS a b = true) (h2 : leS b a = true) : a = b := by
  unfold leS at h1 h2
  simp only [decide_eq_true_eq] at h1 h2
  exact str_ext (List.le_antisymm h1 h2)
theorem ssort_perm (xs : List Str) : (ssort xs).Perm xs := List.mergeSort_perm xs leS
theorem ssort_pair (xs : List Str) : (ssort xs).Pairwise (fun a b => leS a b = true) := List.pairwise_mergeSort leS_trans leS_total xs
theorem sorted_unique {xs ys : List Str} (hp : xs.Perm ys) (h1 : xs.Pairwise (fun a b => leS a b = true)) (h2 : ys.Pairwise (fun a b => leS a b = true)) : xs = ys :=
  List.Perm.eq_of_pairwise (fun a b _ _ x y => leS_anti a b x y) h1 h2 hp
theorem ltCps_iff : ∀ (a b : List Nat), ltCps a b = decide (a < b)
  | [], [] => by simp [ltCps]
  | [], _ :: _ => by simp [ltCps]
  | _ :: _, [] => by simp [ltCps]
  | x :: xs, y :: ys => by
    have ih := ltCps_iff xs ys
    rw [Bool.eq_iff_iff]
    simp [ltCps, ih, List.cons_lt_cons_iff]
theorem risingS_pair : ∀ (x : Str) (r : List Str), risingS x r = true → (x :: r).Pairwise (fun a b => leS a b = true)
  | x, [], _ => by simp
  | x, y :: r, h => by
    unfold risingS at h
    rw [Bool.and_eq_true] at h
    have ih := risingS_pair y r h.2
    have hxy : leS x y = true := by
      have h1 := h.1
      rw [ltCps_iff] at h1
      unfold leS
      simp only [Bool.not_eq_true', decide_eq_false_iff_not, decide_eq_true_eq] at h1 ⊢
      exact List.not_lt.mp h1
    rw [List.pairwise_cons]
    refine ⟨fun z hz => ?_, ih⟩
    rcases List.mem_cons.mp hz with e | hz
    · rw [e]; exact hxy
    · exact leS_trans _ _ _ hxy ((List.pairwise_cons.mp ih).1 z hz)
theorem sortedS_eq {xs ys : List Str} (hp : ys.Perm xs) (h : sortedS ys = true) : ys = ssort xs := by
  have h1 : ys.Pairwise (fun a b => leS a b = true) := by
    cases ys with
    | nil => exact .nil
    | cons x r => exact risingS_pair x r h
  exact sorted_unique (hp.trans (ssort_perm xs).symm) h1 (ssort_pair xs)
theorem cr_sortedO : CallR X (.builtin "sorted") (rL G sortedO) := by
  intro pins s σ' H xs' us Q I ru q
  obtain ⟨m, h, xs, hr, rx, w⟩ := q
  unfold sortedO at w
  split at w
  · obtain ⟨y, rfl, r1⟩ := rx.of1
    split at w
    · rename_i e1
      split at w
      · rename_i zs ez
        split at w
        · rename_i hl
          obtain ⟨p, ps, m1, h1, rs⟩ := hr.lst e1
          have := r1.refp m1
          subst this
          have := strs_rel rs ez
          subst this
          refine cr_sortedS pins s σ' H _ us Q I ru ⟨p, zs, rfl, .inl (.inl h1), hl, fun ys q hp hs nq => ?_⟩
          have := sortedS_eq hp hs
          subst this
          exact wnt_lst hr w (rvs_strs _) nq
        · exact w.elim
      · exact w.elim
    · exact w.elim
  · exact w.elim
/-! ### isinstance with a built-in class -/
theorem ty_rel {H : Hp} {m : List Addr} {h : Hh} {x : Pv} {x' : V} {t : String} (hK : X.K = G.K) (hr : HR G H m h) (r : RV G H m x x') (e : tyP h x = some t) : TyX X.K H x' (.type t) := by
  cases x with
  | non => cases (show x' = _ from r); cases (Option.some.inj e); exact .base .non
  | bl b => cases (show x' = _ from r); cases (Option.some.inj e); exact .base (.bl b)
  | int b => cases (show x' = _ from r); cases (Option.some.inj e); exact .base (.int b)
  | str b => cases (show x' = _ from r); cases (Option.some.inj e); exact .base (.str b)
  | ty b => cases e
  | scr ns =>
    obtain ⟨p, ey, f⟩ := r
    subst ey
    cases (Option.some.inj e)
    rcases f with ⟨o, f⟩ | ⟨o, _, _, f, c, _⟩
    · exact .base (.frz f)
    · exact .kList (by rw [hK]; exact f) c
  | tup xs =>
    obtain ⟨p, ps, ey, f, _⟩ := r
    subst ey
    cases (Option.some.inj e)
    rcases f with f | ⟨o, _, _, f, c, _⟩
    · exact .base (.tup f)
    · exact .kTuple (by rw [hK]; exact f) c
  | ref a =>
    simp only [tyP] at e
    split at e
    · rename_i e1
      obtain ⟨p, ps, m1, h1, rs⟩ := hr.lst e1
      have := r.refp m1
      subst this
      cases (Option.some.inj e)
      exact .base (.lst h1)
    · rename_i e1
      obtain ⟨p, ps, m1, h1, rs⟩ := hr.dct e1
      have := r.refp m1
      subst this
      cases (Option.some.inj e)
      exact .base (.dK h1)
    · cases e
theorem isiB_kit {a T : String} (ha : a ∈ ["NoneType", "bool", "int", "str", "tuple", "list", "dict"]) (hT : T ∈ ["bool", "int", "str", "tuple", "list", "dict"]) : kitB a T = some (isiB a T) := by
  simp only [List.mem_cons, List.not_mem_nil, or_false] at ha hT
  rcases ha with rfl | rfl | rfl | rfl | rfl | rfl | rfl <;> rcases hT with rfl | rfl | rfl | rfl | rfl | rfl <;> decide +kernel
theorem tyP_mem {h : Hh} {x : Pv} {a : String} (e : tyP h x = some a) : a ∈ ["NoneType", "bool", "int", "str", "tuple", "list", "dict"] := by
  cases x with
  | ref b =>
    simp only [tyP] at e
    split at e <;> simp at e <;> subst e <;> simp
  | ty b => simp [tyP] at e
  | _ => simp only [tyP, Option.some.injEq] at e; subst e; simp
theorem cr_isiO {T : String} (hK : X.K = G.K) (hT : T ∈ ["bool", "int", "str", "tuple", "list", "dict"]) : CallR X (.builtin "isinstance") (rL G (isiO T)) := by
  intro pins s σ' H xs' us Q I ru q
  obtain ⟨m, h, xs, hr, rx, w⟩ := q
  unfold isiO at w
  split at w
  · split at w
    · rename_i ht
      subst ht
      obtain ⟨a, ea, w⟩ := wnt_map w
      obtain ⟨y, y2, rfl, r1, r2⟩ := rx.of2
      cases (show y2 = _ from r2)
      exact call_isi pins s σ' H _ us Q I ru ⟨y, .ty _, .type a, _, _, rfl, .ty _, ty_rel hK hr r1 ea, kit_ty (isiB_kit (tyP_mem ea) hT), wnt_same hr w rfl⟩
    · exact w.elim
  · exact w.elim
/-! ### methods of built-in types -/
def isT (T : String) (x : Pv) (h : Hh) : Bool := match x with
  | .str _ => T == "str"
  | .ref a => match h[a]? with
    | some (.lst _) => T == "list"
    | some (.dct _) => T == "dict"
    | _ => false
  | _ => false
def eM (T : String) (o : ML) (co : EM) (ca : AM) : EM := fun σ h => (co σ h).bind fun x h1 => if isT T x h1 then (ca σ h1).bind fun xs h2 => Rs.of (o x xs h2) else .bad
theorem isT_rel {H : Hp} {m : List Addr} {h : Hh} {x : Pv} {x' : V} {T : String} (hr : HR G H m h) (r : RV G H m x x') (e : isT T x h = true) : tyV X.K T x' H := by
  cases x with
  | str z => cases (show x' = _ from r); exact eq_of_beq e
  | ref a =>
    simp only [isT] at e
    split at e
    · rename_i e1
      obtain ⟨p, ps, m1, h1, rs⟩ := hr.lst e1
      have := r.refp m1
      subst this
      exact .inl ⟨eq_of_beq e, ps, .inl (.inl h1)⟩
    · rename_i e1
      obtain ⟨p, ps, m1, h1, rs⟩ := hr.dct e1
      have := r.refp m1
      subst this
      exact .inr (.inr (.inl ⟨eq_of_beq e, .inl ⟨ps, h1⟩⟩))
    · cases e
  | _ => cases e
theorem me_bm {name : Str} {T id : String} {o' : ML} (pa : PlainAttrs T) (slot : Slot T name id) (hty : typeOf (.builtin id) = pure (.type "method_descriptor")) (hm : MtR X id (rM G o')) (ho : ME G X W o co) (ha : MA G X W (e :: es) cs)
    (h1 : attributeBase o name X.env (eval o X.env) = eval o X.env := by rfl)
    (h2 : ((((backTo cpos (starEach (e :: es) X.env)).all fun x => !x.fst) && (backToKw cpos (keywordEach [] X.env)).all fun x => x.fst.isSome) && decide (((e :: es).length + ([] : List Keyword).length + if ([] : List Keyword).isEmpty = true then 0 else 1) < 30)) = true := by rfl)
    (h3 : (apos.endLine == cpos.line) = true := by rfl) (h4 : starEach (e :: es) X.env = (false, eval e X.env) :: starEach es X.env := by rfl) (h5 : ((backTo cpos (starEach es X.env)).any fun x => x.fst) = false := by rfl) :
    ME G X W (.Call (.Attribute o name apos) (e :: es) [] cpos) (eM T o' co cs) :=
  PE.weak (pe_bm pa slot hty hm ho ha h1 h2 h3 h4 h5) fun σ' H Q q => by
    obtain ⟨m, σ, h, r, s⟩ := q
    unfold eM at s
    rw [sat_bind] at s
    refine tE.of r s (fun _ _ _ e => e) fun x h1 m1 H1 x' s1 g1 r1 rx => ?_
    split at s1
    · rename_i ht
      refine ⟨isT_rel r1.hr rx ht, ?_⟩
      rw [sat_bind] at s1
      refine tA.of r1 s1 (fun _ _ _ e => e.gr g1) fun xs h2 m2 H2 xs' s2 g2 r2 rxs => ?_
      exact ⟨m2, h2, x, xs, r2.hr, RV.gr g2 _ _ rx, rxs, (wnt_of s2).gr (g1.trans g2)⟩
    · exact s1.elim
theorem me_bm0 {name : Str} {T id : String} {o' : ML} (pa : PlainAttrs T) (slot : Slot T name id) (hty : typeOf (.builtin id) = pure (.type "method_descriptor")) (hm : MtR X id (rM G o')) (ho : ME G X W o co)
    (h1 : attributeBase o name X.env (eval o X.env) = eval o X.env := by rfl) (h3 : (apos.endLine == cpos.line) = true := by rfl) :
    ME G X W (.Call (.Attribute o name apos) [] [] cpos) (eM T o' co aNil) :=
  PE.weak (pe_bm0 pa slot hty hm ho h1 h3) fun σ' H Q q => by
    obtain ⟨m, σ, h, r, s⟩ := q
    unfold eM at s
    rw [sat_bind] at s
    refine tE.of r s (fun _ _ _ e => e) fun x h1 m1 H1 x' s1 g1 r1 rx => ?_
    split at s1
    · rename_i ht
      refine ⟨isT_rel r1.hr rx ht, ?_⟩
      exact ⟨m1, h1, x, [], r1.hr, rx, rfl, (wnt_of s1).gr g1⟩
    · exact s1.elim
def lstOf (h : Hh) : Pv → Option (Nat × List Pv)
  | .ref a => match h[a]? with
    | some (.lst xs) => some (a, xs)
    | _ => none
  | _ => none
theorem lstOf_rel {H : Hp} {m : List Addr} {h : Hh} {x : Pv} {x' : V} {a : Nat} {xs : List Pv} (hr : HR G H m h) (r : RV G H m x x') (e : lstOf h x = some (a, xs)) : ∃ p ps, h[a]? = some (.lst xs) ∧ m[a]? = some p ∧ x' = .ref p ∧ H p = some (.lst ps) ∧ RVs G H m xs ps := by
  cases x with
  | ref b =>
    simp only [lstOf] at e
    split at e
    · rename_i e1
      cases (Option.some.inj e)
      obtain ⟨p, ps, m1, h1, rs⟩ := hr.lst e1
      exact ⟨p, ps, e1, m1, r.refp m1, h1, rs⟩
    · cases e
  | _ => cases e
theorem wnt_put {H : Hp} {m : List Addr} {h : Hh} {xs xs' : List Pv} {ys' : List V} {p : Addr} {a : Nat} {v : Pv} {v' : V} {Q : VK} (hr : HR G H m h) (ea : h[a]? = some (.lst xs)) (ha : m[a]? = some p) (w : Wnt G H m (some (v, h.set a (.lst xs'))) Q) (r : RVs G H m xs' ys') (rv : RV G H m v v') : Q v' (upd H p (.lst ys')) := by
  obtain ⟨a, b⟩ := putL hr ea ha r
  exact w _ _ _ b a (RV.gr b _ _ rv)
def appendO : ML := fun x vs h => match lstOf h x, vs with
  | some (a, xs), [v] => if xs.length < 1000000 then some (.non, h.set a (.lst (xs ++ [v]))) else none
  | _, _ => none
def popO : ML := fun x vs h => match lstOf h x, vs with
  | some (a, xs), [] => (xs[xs.length - 1]?).map fun v => (v, h.set a (.lst xs.dropLast))
  | some (a, xs), [.int i] => match seqIndex? i xs.length with
    | some k => if -1000000 ≤ i ∧ i < 1000000 then (xs[k]?).map fun v => (v, h.set a (.lst (xs.eraseIdx k))) else none
    | none => none
  | _, _ => none
def extendO : ML := fun x vs h => match lstOf h x, vs with
  | some (a, xs), [y] => match lstOf h y with
    | some (_, ys) => if xs.length + ys.length ≤ 1000000 then some (.non, h.set a (.lst (xs ++ ys))) else none
    | none => none
  | _, _ => none
def clearO : ML := fun x vs h => match lstOf h x, vs with
  | some (a, _), [] => some (.non, h.set a (.lst []))
  | _, _ => none
def insertO : ML := fun x vs h => match lstOf h x, vs with
  | some (a, xs), [.int i, v] => if xs.length < 1000000 ∧ 0 ≤ i ∧ i < 1000000 then some (.non, h.set a (.lst (xs.take i.toNat ++ v :: xs.drop i.toNat))) else none
  | _, _ => none
theorem RVs.dropLast {H : Hp} {m : List Addr} {xs : List Pv} {ys : List V} (r : RVs G H m xs ys) : RVs G H m xs.dropLast ys.dropLast := by
  rw [List.dropLast_eq_take, List.dropLast_eq_take, r.length]
  exact RVs.take _ r
theorem mt_appendO : MtR X "list.append" (rM G appendO) := by
  intro pins s σ' H x' xs' v us Q I rv ru q
  obtain ⟨m, h, x, vs, hr, rx, rvs, w⟩ := q
  unfold appendO at w
  split at w
  · rename_i a xs y e1
    split at w
    · rename_i hl
      obtain ⟨p, ps, ea, ha, ex, hp, rs⟩ := lstOf_rel hr rx e1
      obtain ⟨y', rfl, ry⟩ := rvs.of1
      exact mt_append pins s σ' H x' _ v us Q I rv ru ⟨p, ps, y', ex, rfl, hp, by rw [rs.length]; exact lim_lt hl, wnt_put hr ea ha w (RVs.app rs (RVs.one ry)) rfl⟩
    · exact w.elim
  · exact w.elim
theorem mt_popO : MtR X "list.pop" (rM G popO) := by
  intro pins s σ' H x' xs' v us Q I rv ru q
  obtain ⟨m, h, x, vs, hr, rx, rvs, w⟩ := q
  unfold popO at w
  split at w
  · rename_i a xs e1
    obtain ⟨y, ey, w⟩ := wnt_map w
    obtain ⟨p, ps, ea, ha, ex, hp, rs⟩ := lstOf_rel hr rx e1
    obtain ⟨y', ey', ry⟩ := rs.get ey
    cases (show xs' = [] from rvs)
    exact mt_pop pins s σ' H x' _ v us Q I rv ru ⟨p, ps, y', ex, rfl, hp, by rw [rs.length]; exact ey', wnt_put hr ea ha w rs.dropLast ry⟩
  · rename_i a xs i e1
    split at w
    · rename_i k ek
      split at w
      · rename_i hi
        obtain ⟨y, ey, w⟩ := wnt_map w
        obtain ⟨p, ps, ea, ha, ex, hp, rs⟩ := lstOf_rel hr rx e1
        obtain ⟨y', ey', ry⟩ := rs.get ey
        obtain ⟨i', rfl, ri⟩ := rvs.of1
        cases (show i' = _ from ri)
        exact mt_popAt pins s σ' H x' _ v us Q I rv ru ⟨p, ps, i, k, y', ex, rfl, hp, by omega, by omega, by rw [rs.length]; exact ek, ey', wnt_put hr ea ha w (rs.eraseIdx k) ry⟩
      · exact w.elim
    · exact w.elim
  · exact w.elim
theorem mt_extendO : MtR X "list.extend" (rM G extendO) := by
  intro pins s σ' H x' xs' v us Q I rv ru q
  obtain ⟨m, h, x, vs, hr, rx, rvs, w⟩ := q
  unfold extendO at w
  split at w
  · rename_i a xs y e1
    split at w
    · rename_i b ys e2
      split at w
      · rename_i hl
        obtain ⟨p, ps, ea, ha, ex, hp, rs⟩ := lstOf_rel hr rx e1
        obtain ⟨y', rfl, ry⟩ := rvs.of1
        obtain ⟨p2, ps2, ea2, ha2, ex2, hp2, rs2⟩ := lstOf_rel hr ry e2
        subst ex2
        exact mt_extend pins s σ' H x' _ v us Q I rv ru ⟨p, p2, ps, ps2, ex, rfl, hp, hp2, by rw [rs.length, rs2.length]; exact lim_ok hl, wnt_put hr ea ha w (RVs.app rs rs2) rfl⟩
      · exact w.elim
    · exact w.elim
  · exact w.elim
theorem mt_clearO : MtR X "list.clear" (rM G clearO) := by
  intro pins s σ' H x' xs' v us Q I rv ru q
  obtain ⟨m, h, x, vs, hr, rx, rvs, w⟩ := q
  unfold clearO at w
  split at w
  · rename_i a xs e1
    obtain ⟨p, ps, ea, ha, ex, hp, rs⟩ := lstOf_rel hr rx e1
    cases (show xs' = [] from rvs)
    exact mt_clear pins s σ' H x' _ v us Q I rv ru ⟨p, ps, ex, rfl, hp, wnt_put hr ea ha w (show RVs G H m [] [] from rfl) rfl⟩
  · exact w.elim
theorem mt_insertO : MtR X "list.insert" (rM G insertO) := by
  intro pins s σ' H x' xs' v us Q I rv ru q
  obtain ⟨m, h, x, vs, hr, rx, rvs, w⟩ := q
  unfold insertO at w
  split at w
  · rename_i a xs i y e1
    split at w
    · rename_i hl
      obtain ⟨p, ps, ea, ha, ex, hp, rs⟩ := lstOf_rel hr rx e1
      obtain ⟨i', y', rfl, ri, ry⟩ := rvs.of2
      cases (show i' = _ from ri)
      refine mt_insert pins s σ' H x' _ v us Q I rv ru ⟨p, ps, i, y', ex, rfl, hp, by rw [rs.length]; exact lim_lt hl.1, hl.2.1, by omega, ?_⟩
      have rr : RVs G H m (xs.take i.toNat ++ y :: xs.drop i.toNat) (ps.take i.toNat ++ y' :: ps.drop i.toNat) := RVs.app (RVs.take _ rs) ⟨y', _, rfl, ry, RVs.drop _ rs⟩
      rw [List.append_assoc]
      exact wnt_put hr ea ha w rr rfl
    · exact w.elim
  · exact w.elim
end
end Mi
namespace Mi
open PySem PySem.Spec PyProof.Rows L2
/-! ### statements -/
/-- an expression's outcome within a statement -/
def Rs.stm {α : Type} (r : Rs α) (σ : Sg) (k : α → Hh → Rs Fl) : Rs Fl := match r with
  | .ok a h => k a h
  | .ex c fs h => .ok (.xc σ c fs) h
  | .bad => .bad
abbrev FK (G : Gm) (W : WX') (H : Hp) (m : List Addr) (D : Ends) : Fl → Hh → Prop := fun f h' => ∀ m' H', Gr G H m H' m' → HR G H' m' h' → FlR G W H' m' D f
abbrev NoX : Nat → List (Str × Pv) → Hh → Prop := fun _ _ _ => False
section
variable {G : Gm} {W : WX'} {H H1 : Hp} {m m1 : List Addr} {h : Hh} {σ : Sg} {σ' : L2.St} {D : Ends}
theorem FK.gr {f : Fl} {h' : Hh} (k : FK G W H m D f h') (g : Gr G H m H1 m1) : FK G W H1 m1 D f h' := fun m' H' g' r => k m' H' (g.trans g') r
theorem sat_stm {α : Type} {r : Rs α} {k : α → Hh → Rs Fl} (rl : Rel G H m h σ σ') (s : Sat (r.stm σ k) (FK G W H m D) NoX) : Sat r (fun a h1 => Sat (k a h1) (FK G W H m D) NoX) (EX G W H m σ') := by
  cases r with
  | ok a h1 => exact s
  | ex c fs h1 => exact fun m' H' cls d g q x => s m' H' g q σ' cls d (rl.sr.gr g) x
  | bad => exact s
theorem Sat.fk {r : Rs Fl} (s : Sat r (FK G W H m D) NoX) (g : Gr G H m H1 m1) : Sat r (FK G W H1 m1 D) NoX := s.mono (fun f h' k => k.gr g) fun _ _ _ e => e
end
def sSeq (a b : SM) : SM := fun σ h => (a σ h).bind fun f h1 => match f with
  | .nx σ1 => b σ1 h1
  | f => .ok f h1
def sSkip : SM := fun σ h => .ok (.nx σ) h
def sBreak : SM := fun σ h => .ok (.bk σ) h
def sCont : SM := fun σ h => .ok (.ct σ) h
def sNever : SM := fun _ _ => .bad
def sExpr (e : EM) : SM := fun σ h => (e σ h).stm σ fun _ h1 => .ok (.nx σ) h1
def sRet (e : EM) : SM := fun σ h => (e σ h).stm σ fun v h1 => .ok (.rt v) h1
def sRetN : SM := fun _ h => .ok (.rt .non) h
def sIf (c : BM) (a b : SM) : SM := fun σ h => (c σ h).stm σ fun x h1 => if x then a σ h1 else b σ h1
def sSet (i : Nat) (e : EM) : SM := fun σ h => (e σ h).stm σ fun v h1 => .ok (.nx (σ.set i (some v))) h1
/-- a row of names -/
def setAll : List Nat → List Pv → Sg → Option Sg
  | [], [], σ => some σ
  | i :: is, v :: vs, σ => setAll is vs (σ.set i (some v))
  | _, _, _ => none
def unTup (is : List Nat) (v : Pv) (σ : Sg) : Option Sg := match v with
  | .tup xs => setAll is xs σ
  | _ => none
def sTup (is : List Nat) (e : EM) : SM := fun σ h => (e σ h).stm σ fun v h1 => match unTup is v σ with
  | some σ2 => .ok (.nx σ2) h1
  | none => .bad
section
variable {G : Gm} {X : Cx} {W : WX'} {pos p2 apos cpos : Pos} {e : Expr} {ce : EM} {st : Stmt} {rest : List Stmt} {cs cr : SM}
theorem ms_nil : MSs G X W [] sSkip := PSs.weak pss_nil fun D σ' H q => by
  obtain ⟨m, σ, h, r, s⟩ := q
  exact s m H Gr.refl r.hr σ' r.sr
theorem ms_cons (h1 : MS G X W st cs) (h2 : MSs G X W rest cr) : MSs G X W (st :: rest) (sSeq cs cr) := PSs.weak (pss_cons h1 h2) fun D σ' H q => by
  obtain ⟨m, σ, h, r, s⟩ := q
  unfold sSeq at s
  rw [sat_bind] at s
  refine ⟨m, σ, h, r, s.mono (fun f h1 s1 m1 H1 g1 r1 => ?_) fun _ _ _ e => e⟩
  cases f with
  | nx σ1 => exact fun σ1' sr => ⟨m1, σ1, h1, ⟨r1, sr⟩, Sat.fk s1 g1⟩
  | rt v => exact s1 m1 H1 g1 r1
  | bk σ1 => exact s1 m1 H1 g1 r1
  | ct σ1 => exact s1 m1 H1 g1 r1
  | xc σ1 c fs => exact s1 m1 H1 g1 r1
theorem ms_one (h1 : MS G X W st cs) : MSs G X W [st] cs := pss_one h1
theorem ms_pass : MS G X W (.Pass pos) sSkip := PS.weak ps_pass fun D σ' H q => by
  obtain ⟨m, σ, h, r, s⟩ := q
  exact s m H Gr.refl r.hr σ' r.sr
theorem ms_break : MS G X W (.Break pos) sBreak := PS.weak ps_break fun D σ' H q => by
  obtain ⟨m, σ, h, r, s⟩ := q
  exact s m H Gr.refl r.hr σ' r.sr
theorem ms_cont : MS G X W (.Continue pos) sCont := PS.weak ps_continue fun D σ' H q => by
  obtain ⟨m, σ, h, r, s⟩ := q
  exact s m H Gr.refl r.hr σ' r.sr
theorem ms_never : MS G X W st sNever := PS.weak ps_never fun D σ' H q => by
  obtain ⟨m, σ, h, r, s⟩ := q
  exact s
theorem ms_expr (he : ME G X W e ce) (hs : swapsWith e none pos.line X.env = pure false := by rfl) : MS G X W (.Expr e pos) (sExpr ce) := PS.weak (ps_expr he hs) fun D σ' H q => by
  obtain ⟨m, σ, h, r, s⟩ := q
  exact tE.of r (sat_stm r s) (fun _ _ _ e => e) fun v h1 m1 H1 v' s1 g1 r1 rv => s1 m1 H1 g1 r1.hr σ' r1.sr
theorem ms_ret (he : ME G X W e ce) : MS G X W (.Return (some e) pos) (sRet ce) := PS.weak (ps_ret he) fun D σ' H q => by
  obtain ⟨m, σ, h, r, s⟩ := q
  exact tE.of r (sat_stm r s) (fun _ _ _ e => e) fun v h1 m1 H1 v' s1 g1 r1 rv => s1 m1 H1 g1 r1.hr v' rv
theorem ms_retN : MS G X W (.Return none pos) sRetN := PS.weak ps_retN fun D σ' H q => by
  obtain ⟨m, σ, h, r, s⟩ := q
  exact s m H Gr.refl r.hr .non rfl
theorem ms_if {c : Expr} {a b : List Stmt} {bc : BM} {ca cb : SM} (hc : MB G X W c bc) (ha : MSs G X W a ca) (hb : MSs G X W b cb) : MS G X W (.If c a b pos) (sIf bc ca cb) := PS.weak (ps_if hc ha hb) fun D σ' H q => by
  obtain ⟨m, σ, h, r, s⟩ := q
  refine tB.of r (sat_stm r s) (fun _ _ _ e => e) fun x h1 m1 H1 s1 g1 r1 => ?_
  cases x with
  | true => exact ⟨m1, σ, h1, r1, Sat.fk s1 g1⟩
  | false => exact ⟨m1, σ, h1, r1, Sat.fk s1 g1⟩
theorem ms_set {i : Nat} {x : Str} {pos' : Pos} (hN : X.N.Nodup) (hi : X.N[i]? = some x) (hx : Loc X.env.scope x) (he : ME G X W e ce) (hs : swapsWith e (some (.Name x pos')) pos.line X.env = pure false := by rfl) (hf : X.fn x = true ∨ X.env.scope.names.lookup x = some .local := by first | exact .inl rfl | exact .inr rfl | assumption) :
    MS G X W (.Assign [.Name x pos'] e pos) (sSet i ce) := PS.weak (ps_set hN hi hx he hs hf) fun D σ' H q => by
  obtain ⟨m, σ, h, r, s⟩ := q
  exact tE.of r (sat_stm r s) (fun _ _ _ e => e) fun v h1 m1 H1 v' s1 g1 r1 rv => s1 m1 H1 g1 r1.hr _ (r1.sr.set i rv)
/-! a row of names as a target -/
def gNs : List Nat → TGs
  | [] => gNil
  | i :: is => gCons (gName i) (gNs is)
theorem gNs_of {H : Hp} {m : List Addr} : ∀ {is : List Nat} {vs : List Pv} {vs' : List V} {σ σ2 : Sg} {σ' : L2.St} {Q : L2.St → Hp → Prop}, setAll is vs σ = some σ2 → RVs G H m vs vs' → SR G H m σ σ' → (∀ σ2', SR G H m σ2 σ2' → Q σ2' H) → gNs is vs' σ' H Q
  | [], [], _, σ, σ2, σ', Q, e, r, sr, k => by
    cases (Option.some.inj e)
    exact ⟨r, k σ' sr⟩
  | i :: is, v :: vs, _, σ, σ2, σ', Q, e, ⟨y, zs, ey, r, rs⟩, sr, k => by
    subst ey
    exact ⟨y, zs, rfl, gNs_of (is := is) e rs (sr.set i r) k⟩
  | [], _ :: _, _, _, _, _, _, e, _, _, _ => by cases e
  | _ :: _, [], _, _, _, _, _, e, _, _, _ => by cases e
theorem setAll_len : ∀ {is : List Nat} {vs : List Pv} {σ σ2 : Sg}, setAll is vs σ = some σ2 → vs.length = is.length
  | [], [], _, _, _ => rfl
  | i :: is, v :: vs, σ, _, e => by
    simp [setAll_len (is := is) (vs := vs) e]
  | [], _ :: _, _, _, e => by cases e
  | _ :: _, [], _, _, e => by cases e
theorem unTup_of {H : Hp} {m : List Addr} {is : List Nat} {v : Pv} {v' : V} {σ σ2 : Sg} {σ' : L2.St} {Q : L2.St → Hp → Prop} {n : Nat} (hK : X.K = G.K) (e : unTup is v σ = some σ2) (r : RV G H m v v') (sr : SR G H m σ σ') (hn : is.length = n) (k : ∀ σ2', SR G H m σ2 σ2' → Q σ2' H) : gTup X.K n (gNs is) v' σ' H Q := by
  cases v with
  | tup xs =>
    obtain ⟨p, ps, ev, f, rs⟩ := r
    have e' : setAll is xs σ = some σ2 := e
    exact ⟨p, ps, ev, hK ▸ f.sq, by rw [rs.length, setAll_len e', hn], gNs_of e' rs sr k⟩
  | _ => cases e
theorem ms_tup {tg : Expr} {is : List Nat} {n : Nat} (hK : X.K = G.K) (hn : is.length = n) (hg : PG X tg (gTup X.K n (gNs is))) (he : ME G X W e ce) (hs : swapsWithSole [tg] e pos.line X.env = pure false := by rfl) (hw : swappedStores [tg] e X.env = pure none := by rfl)
    (h1 : (assignEach [tg] X.env).map (·.2) = [assign tg X.env] := by rfl) : MS G X W (.Assign [tg] e pos) (sTup is ce) := PS.weak (ps_asg he hg hs hw h1) fun D σ' H q => by
  obtain ⟨m, σ, h, r, s⟩ := q
  refine tE.of r (sat_stm r s) (fun _ _ _ e => e) fun v h1 m1 H1 v' s1 g1 r1 rv => ?_
  cases q : unTup is v σ with
  | none => rw [q] at s1; exact s1.elim
  | some σ2 =>
    rw [q] at s1
    exact unTup_of hK q rv r1.sr hn fun σ2' sr2 => s1 m1 H1 g1 r1.hr σ2' sr2
/-- a, b = x, y of plain local names, stored from the right -/
def sPar (i j : Nat) (a : AM) : SM := fun σ h => (a σ h).stm σ fun vs h1 => match vs with
  | [v, w] => .ok (.nx ((σ.set i (some v)).set j (some w))) h1
  | _ => .bad
theorem ms_par {i j : Nat} {x y : Str} {a b : Expr} {ca : AM} {px py pt : Pos} {kt k2 : Nat} {pt2 : Pos} (hc : X.calm = true) (hN : X.N.Nodup) (hi : X.N[i]? = some x) (hj : X.N[j]? = some y) (hij : i ≠ j)
    (hx : X.env.scope.names.lookup x = some .local) (hy : X.env.scope.names.lookup y = some .local) (ha : MA G X W [a, b] ca)
    (hw : swappedStores [.Tuple [.Name x px, .Name y py] kt pt] (.Tuple [a, b] k2 pt2) X.env = pure (some [x, y]))
    (hs : swapsWithSole [.Tuple [.Name x px, .Name y py] kt pt] (.Tuple [a, b] k2 pt2) pos.line X.env = pure false := by rfl) :
    MS G X W (.Assign [.Tuple [.Name x px, .Name y py] kt pt] (.Tuple [a, b] k2 pt2) pos) (sPar i j ca) := PS.weak (ps_par hc hN hi hj hij hx hy ha hw hs) fun D σ' H q => by
  obtain ⟨m, σ, h, r, s⟩ := q
  refine tA.of r (sat_stm r s) (fun _ _ _ e => e) fun vs h1 m1 H1 vs' s1 g1 r1 rv => ?_
  match vs, rv, s1 with
  | [v, w], rv, s1 =>
    obtain ⟨v', w', ev, r2, r3⟩ := rv.of2
    exact ⟨v', w', ev, s1 m1 H1 g1 r1.hr _ ((r1.sr.set i r2).set j r3)⟩
  | [], _, s1 => exact s1.elim
  | [_], _, s1 => exact s1.elim
  | _ :: _ :: _ :: _, _, s1 => exact s1.elim
/-! ### o[i] = e -/
def putP (kvs : List (Key × Pv)) (k : Key) (v : Pv) : List (Key × Pv) := if kvs.any (fun kv => decide (kv.1 = k)) then kvs.map fun kv => if kv.1 = k then (kv.1, v) else kv else kvs ++ [(k, v)]
def setO (o i v : Pv) (h : Hh) : Option Hh := match o with
  | .ref a => match h[a]? with
    | some (.lst xs) => match i with
      | .int k => (ixN xs.length k).map fun j => h.set a (.lst (xs.set j v))
      | _ => none
    | some (.dct kvs) => match keyP i with
      | some k => if kvs.length < 1000000 then some (h.set a (.dct (putP kvs k v))) else none
      | none => none
    | _ => none
  | _ => none
def rSet (G : Gm) : TSet := fun o' i' v' H Q => ∃ m h o i v, HR G H m h ∧ RV G H m o o' ∧ RV G H m i i' ∧ RV G H m v v' ∧ match setO o i v h with
  | some h2 => ∀ m' H', Gr G H m H' m' → HR G H' m' h2 → Q H'
  | none => False
def sSub (o i e : EM) : SM := fun σ h => (e σ h).stm σ fun v h1 => (o σ h1).stm σ fun ov h2 => (i σ h2).stm σ fun iv h3 => match setO ov iv v h3 with
  | some h4 => .ok (.nx σ) h4
  | none => .bad
theorem put_rel {H : Hp} {m : List Addr} (k : Key) {v : Pv} {v' : V} (rv : RV G H m v v') : ∀ {kvs : List (Key × Pv)} {ws : List (Key × V)}, RKs G H m kvs ws → RKs G H m (putP kvs k v) (putK ws k v') := by
  intro kvs ws r
  have key : kvs.any (fun kv => decide (kv.1 = k)) = ws.any fun kv => decide (kv.1 = k) := by
    have e1 : kvs.any (fun kv => decide (kv.1 = k)) = (kvs.map (·.1)).any fun z => decide (z = k) := by rw [List.any_map]; rfl
    have e2 : ws.any (fun kv => decide (kv.1 = k)) = (ws.map (·.1)).any fun z => decide (z = k) := by rw [List.any_map]; rfl
    rw [e1, e2, r.1]
  have mp : ∀ {kvs : List (Key × Pv)} {ws : List (Key × V)}, RKs G H m kvs ws → RKs G H m (kvs.map fun kv => if kv.1 = k then (kv.1, v) else kv) (ws.map fun kv => if kv.1 = k then (kv.1, v') else kv) := by
    intro kvs
    induction kvs with
    | nil =>
      intro ws r
      have : ws = [] := by simpa using r.1
      subst this
      exact ⟨rfl, rfl⟩
    | cons p ps ih =>
      intro ws r
      cases ws with
      | nil => exact absurd r.1 (by simp)
      | cons q qs =>
        obtain ⟨h1, h2⟩ := r
        simp only [List.map_cons, List.cons.injEq] at h1
        obtain ⟨y, zs, e, r1, r2⟩ := h2
        simp only [List.map_cons, List.cons.injEq] at e
        obtain ⟨e3, e4⟩ := e
        subst e3; subst e4
        obtain ⟨j1, j2⟩ := ih (ws := qs) ⟨h1.2, r2⟩
        refine ⟨?_, ?_⟩
        · simp only [List.map_cons]
          rw [j1]
          congr 1
          split <;> split <;> simp_all
        · simp only [List.map_cons]
          refine ⟨_, _, rfl, ?_, j2⟩
          rw [h1.1]
          split
          · exact rv
          · exact r1
  unfold putP putK
  rw [key]
  split
  · exact mp r
  · exact ⟨by simp [r.1], by simpa using RVs.app r.2 (RVs.one rv)⟩
theorem set_O (hu : X.A.units + 65 < cLine) : PSet X (rSet G) := by
  intro pins s σ' H o' i' v' ov iv u Q I ro ri ru q
  obtain ⟨m, h, o, i, v, hr, r1, r2, r3, w⟩ := q
  unfold setO at w
  cases o with
  | ref a =>
    simp only at w
    cases ea : h[a]? with
    | none => rw [ea] at w; exact w.elim
    | some ob =>
      rw [ea] at w
      cases ob with
      | lst xs =>
        simp only at w
        cases i with
        | int k =>
          simp only at w
          cases ej : ixN xs.length k with
          | none => rw [ej] at w; exact w.elim
          | some j =>
            rw [ej] at w
            obtain ⟨p, ps, m1, h1, rs⟩ := hr.lst ea
            have := r1.refp m1
            subst this
            cases (show i' = _ from r2)
            obtain ⟨b1, b2⟩ := putL hr ea m1 (RVs.set r3 j rs)
            exact set_list pins s σ' H _ _ v' ov iv u Q I ro ri ru ⟨p, ps, k, j, rfl, rfl, h1, by rw [rs.length]; exact ej, w _ _ b2 b1⟩
        | _ => exact w.elim
      | dct kvs =>
        simp only at w
        cases ek : keyP i with
        | none => rw [ek] at w; exact w.elim
        | some k =>
          rw [ek] at w
          simp only at w
          split at w
          · rename_i hl
            split at hl
            · rename_i hlen
              cases hl
              obtain ⟨p, ps, m1, h1, rs⟩ := hr.dct ea
              have := r1.refp m1
              subst this
              cases (key_rel r2 ek)
              cases (show ov = Value.ref p from ro)
              obtain ⟨b1, b2⟩ := putD hr ea m1 (put_rel k r3 rs)
              have hlen' : ps.length < sizeLine := by
                have := congrArg List.length rs.1
                simp only [List.length_map] at this
                rw [this]; exact lim_lt hlen
              exact d_setItem (by omega) I (DPut.k (k := k) h1 hlen') ri ru fun s' I' => ⟨_, I', w _ _ b2 b1⟩
            · cases hl
          · exact w.elim
      | ins c fs => exact w.elim
  | _ => exact w.elim
theorem ms_sub {o i : Expr} {co ci : EM} (hu : X.A.units + 65 < cLine) (ho : ME G X W o co) (hi : ME G X W i ci) (he : ME G X W e ce) (hs : swapsWithSole [.Subscript o i p2] e pos.line X.env = pure false := by rfl) (hw : swappedStores [.Subscript o i p2] e X.env = pure none := by rfl)
    (h1 : (assignEach [.Subscript o i p2] X.env).map (·.2) = [assign (.Subscript o i p2) X.env] := by rfl)
    (ha : ∀ v, assign (.Subscript o i p2) X.env v = (do
      let ov ← holding [v] (eval o X.env)
      let iv ← holding [v, ov] (eval i X.env)
      standAt p2
      holding [v, ov, iv] (setItem ov iv v)
      release [v, ov, iv] []) := by intro _; rfl) : MS G X W (.Assign [.Subscript o i p2] e pos) (sSub co ci ce) := PS.weak (ps_asg he (pg_sub ho hi (set_O hu) ha) hs hw h1) fun D σ' H q => by
  obtain ⟨m, σ, h, r, s⟩ := q
  refine tE.of r (sat_stm r s) (fun _ _ _ e => e) fun v h1 m1 H1 v' s1 g1 r1 rv => ?_
  have s1 := Sat.fk s1 g1
  refine tE.of r1 (sat_stm r1 s1) (fun _ _ _ e => e) fun ov h2 m2 H2 ov' s2 g2 r2 ro => ?_
  have s2 := Sat.fk s2 g2
  refine tE.of r2 (sat_stm r2 s2) (fun _ _ _ e => e) fun iv h3 m3 H3 iv' s3 g3 r3 ri => ?_
  have s3 := Sat.fk s3 g3
  refine ⟨m3, h3, ov, iv, v, r3.hr, RV.gr g3 _ _ ro, ri, RV.gr (g2.trans g3) _ _ rv, ?_⟩
  cases q : setO ov iv v h3 with
  | none => rw [q] at s3; exact s3
  | some h4 =>
    rw [q] at s3
    exact fun m' H' g' r' => s3 m' H' g' r' σ' (r3.sr.gr g')
/-! ### while -/
def whF (c : BM) (b : SM) : Nat → Sg → Hh → Rs Fl
  | 0, _, _ => .bad
  | n + 1, σ, h => (c σ h).stm σ fun x h1 => if x then (b σ h1).bind fun f h2 => (match f with
      | .nx σ2 => whF c b n σ2 h2
      | .ct σ2 => whF c b n σ2 h2
      | .bk σ2 => .ok (.nx σ2) h2
      | f => .ok f h2) else .ok (.nx σ) h1
def fuelN : Nat := 1000000
def sWhile (c : BM) (b : SM) : SM := fun σ h => whF c b fuelN σ h
theorem ms_while {c : Expr} {body : List Stmt} {bc : BM} {cb : SM} (hp : PassesOwn (model X.prog X.w) X.A X.env X.xe) (hc : MB G X W c bc) (hb : MSs G X W body cb) : MS G X W (.While c body [] pos) (sWhile bc cb) := PS.weak (ps_while hp hc hb) fun D σ' H q => by
  obtain ⟨m, σ, h, r, s⟩ := q
  refine ⟨fun n σ' H => ∃ m σ h, Rel G H m h σ σ' ∧ Sat (whF bc cb n σ h) (FK G W H m D) NoX, ⟨fuelN, m, σ, h, r, s⟩, fun n σ' H w => ?_⟩
  obtain ⟨m, σ, h, r, s⟩ := w
  cases n with
  | zero => exact s.elim
  | succ n =>
    unfold whF at s
    refine tB.of r (sat_stm r s) (fun _ _ _ e => e) fun x h1 m1 H1 s1 g1 r1 => ?_
    cases x with
    | false =>
      rw [if_neg Bool.false_ne_true] at s1
      rw [if_neg Bool.false_ne_true]
      exact s1 m1 H1 g1 r1.hr σ' r1.sr
    | true =>
      rw [if_pos rfl] at s1
      rw [if_pos rfl]
      have s1 := Sat.fk s1 g1
      rw [sat_bind] at s1
      refine ⟨fun σ' H => ∃ m σ h, Rel G H m h σ σ' ∧ Sat (whF bc cb n σ h) (FK G W H m D) NoX, fun σ2 H2 w => ⟨n, Nat.lt_succ_self n, w⟩, m1, σ, h1, r1, s1.mono (fun f h2 s2 m2 H2 g2 r2 => ?_) fun _ _ _ e => e⟩
      cases f with
      | nx σ2 => exact fun σ2' sr => ⟨m2, σ2, h2, ⟨r2, sr⟩, Sat.fk s2 g2⟩
      | ct σ2 => exact fun σ2' sr => ⟨m2, σ2, h2, ⟨r2, sr⟩, Sat.fk s2 g2⟩
      | bk σ2 => exact s2 m2 H2 g2 r2
      | rt v => exact s2 m2 H2 g2 r2
      | xc σ2 c fs => exact s2 m2 H2 g2 r2
end
end Mi
namespace Mi
open PySem PySem.Spec PyProof.Rows L2
/-! ### what is walked -/
inductive Itv where
  | lst (a : Nat) | tup (xs : List Pv) | str (z : Str) | rng (lo : Int) (n : Nat) | enm (a : Nat) | zip (a b : Nat)
def lstAt (h : Hh) (a : Nat) : Option (List Pv) := match h[a]? with
  | some (.lst xs) => some xs
  | _ => none
/-- none: stuck; some none: it stops -/
def itAt (J : Itv) (i : Nat) (h : Hh) : Option (Option Pv) := match J with
  | .lst a => (lstAt h a).map fun xs => xs[i]?
  | .tup xs => some xs[i]?
  | .str z => some ((z.cps.toList[i]?).map fun c => .str ⟨#[c]⟩)
  | .rng lo n => some (if i < n then some (.int (lo + i)) else none)
  | .enm a => (lstAt h a).map fun xs => (xs[i]?).map fun v => .tup [.int i, v]
  | .zip a b => match lstAt h a, lstAt h b with
    | some xs, some ys => some (match xs[i]?, ys[i]? with
      | some v, some w => some (.tup [v, w])
      | _, _ => none)
    | _, _ => none
abbrev IM := Sg → Hh → Rs Itv
def iRng1 (a : AM) : IM := fun σ h => (a σ h).bind fun xs h1 => match xs with
  | [.int j] => if -1000000000 ≤ j ∧ j ≤ 1000000000 then .ok (.rng 0 j.toNat) h1 else .bad
  | _ => .bad
def iRng2 (a : AM) : IM := fun σ h => (a σ h).bind fun xs h1 => match xs with
  | [.int i, .int j] => if -1000000000 ≤ i ∧ i ≤ 1000000000 ∧ -1000000000 ≤ j ∧ j ≤ 1000000000 then .ok (.rng i (j - i).toNat) h1 else .bad
  | _ => .bad
def iEnm (a : AM) : IM := fun σ h => (a σ h).bind fun xs h1 => match xs with
  | [.ref a] => match lstAt h1 a with
    | some _ => .ok (.enm a) h1
    | none => .bad
  | _ => .bad
def iZp (a : AM) : IM := fun σ h => (a σ h).bind fun xs h1 => match xs with
  | [.ref a, .ref b] => match lstAt h1 a, lstAt h1 b with
    | some _, some _ => .ok (.zip a b) h1
    | _, _ => .bad
  | _ => .bad
/-- the walk of ours and that of the layer, from a heap on -/
def JR (G : Gm) (H0 : Hp) (m0 : List Addr) (J : Itv) (J' : It) : Prop := ∀ m H h i, Gr G H0 m0 H m → HR G H m h →
  (itAt J i h = some none → J'.stop i H) ∧ ∀ v, itAt J i h = some (some v) → J'.go i H ∧ ∀ x H', J'.yld i H x H' → Gr G H m H' m ∧ HR G H' m h ∧ RV G H' m v x
def tI (G : Gm) (W : WX') (c : IM) : TI := fun σ' H R => ∃ m σ h, Rel G H m h σ σ' ∧
  Sat (c σ h) (fun J h' => ∀ m' H' J', Gr G H m H' m' → HR G H' m' h' → JR G H' m' J J' → R J' H') (EX G W H m σ')
abbrev MI (G : Gm) (X : Cx) (W : WX') (tg it : Expr) (c : IM) : Prop := PI X tg it (tI G W c)
section
variable {G : Gm} {X : Cx} {W : WX'} {pos p2 apos cpos : Pos} {e e2 tg : Expr} {ce ce2 : EM}
theorem PI.weak {tg it : Expr} {t t' : TI} (h : PI X tg it t) (w : ∀ σ H R, t' σ H R → t σ H R) : PI X tg it t' := ⟨fun pins s σ H R I q => h.run pins s σ H R I (w σ H R q)⟩
theorem lstAt_rel {H : Hp} {m : List Addr} {h : Hh} {a : Nat} {xs : List Pv} (hr : HR G H m h) (e : lstAt h a = some xs) : ∃ p ps, m[a]? = some p ∧ H p = some (.lst ps) ∧ RVs G H m xs ps := by
  unfold lstAt at e
  split at e
  · rename_i e1
    cases e
    exact hr.lst e1
  · cases e
theorem jr_lst {H0 : Hp} {m0 : List Addr} {a : Nat} {p : Addr} {K : PySem.W.Frag} (ha : m0[a]? = some p) : JR G H0 m0 (.lst a) (Itl K p) := by
  intro m H h i g hr
  have hm := g.ext _ _ ha
  constructor
  · intro e
    simp only [itAt, Option.map_eq_some_iff] at e
    obtain ⟨xs, e1, e2⟩ := e
    obtain ⟨p', ps, m1, h1, rs⟩ := lstAt_rel hr e1
    rw [hm] at m1; cases m1
    refine ⟨ps, .inl (.inl h1), ?_⟩
    rw [rs.length]; simpa using e2
  · intro v e
    simp only [itAt, Option.map_eq_some_iff] at e
    obtain ⟨xs, e1, e2⟩ := e
    obtain ⟨p', ps, m1, h1, rs⟩ := lstAt_rel hr e1
    rw [hm] at m1; cases m1
    obtain ⟨y, e3, r3⟩ := rs.get e2
    refine ⟨⟨ps, y, .inl (.inl h1), e3⟩, fun x H' y2 => ?_⟩
    obtain ⟨rfl, f⟩ := y2
    have := f ps (.inl (.inl h1))
    rw [e3] at this; cases this
    exact ⟨Gr.refl, hr, r3⟩
theorem jr_tup {H0 : Hp} {m0 : List Addr} {xs : List Pv} {ps : List V} {p : Addr} (f : TupL G.K H0 p ps) (rs : RVs G H0 m0 xs ps) : JR G H0 m0 (.tup xs) (Itt G.K p) := by
  intro m H h i g hr
  have f' := g.tup _ _ f
  have rs' := RVs.gr g _ _ rs
  constructor
  · intro e
    have e : some xs[i]? = some none := e
    refine ⟨ps, f'.sq, ?_⟩
    rw [rs.length]; simpa using e
  · intro v e
    have e : some xs[i]? = some (some v) := e
    obtain ⟨y, e3, r3⟩ := rs'.get (Option.some.inj e)
    refine ⟨⟨ps, y, f'.sq, e3⟩, fun x H' y2 => ?_⟩
    obtain ⟨rfl, f2⟩ := y2
    have := f2 ps f'.sq
    rw [e3] at this; cases this
    exact ⟨Gr.refl, hr, r3⟩
theorem jr_str {H0 : Hp} {m0 : List Addr} {z : Str} : JR G H0 m0 (.str z) (Its z) := by
  intro m H h i g hr
  constructor
  · intro e
    simp only [itAt, Option.some.injEq, Option.map_eq_none_iff] at e
    show z.cps.size ≤ i
    simpa using e
  · intro v e
    simp only [itAt, Option.some.injEq, Option.map_eq_some_iff] at e
    obtain ⟨c, e1, e2⟩ := e
    have hi : i < z.cps.size := by
      have := (List.getElem?_eq_some_iff.mp e1).1
      simpa using this
    refine ⟨hi, fun x H' y2 => ?_⟩
    obtain ⟨rfl, c', e3, e4⟩ := y2
    have : c = c' := by
      have e5 : z.cps.toList[i]? = z.cps[i]? := by simp
      rw [e5, e3] at e1
      exact (Option.some.inj e1).symm
    subst this; subst e2; subst e4
    exact ⟨Gr.refl, hr, rfl⟩
theorem jr_rng {H0 : Hp} {m0 : List Addr} {lo : Int} {n : Nat} : JR G H0 m0 (.rng lo n) (Itr lo n) := by
  intro m H h i g hr
  constructor
  · intro e
    simp only [itAt, Option.some.injEq] at e
    split at e
    · cases e
    · rename_i hi
      exact Nat.le_of_not_lt hi
  · intro v e
    simp only [itAt, Option.some.injEq] at e
    split at e
    · rename_i hi
      cases e
      refine ⟨hi, fun x H' y2 => ?_⟩
      obtain ⟨rfl, rfl⟩ := y2
      exact ⟨Gr.refl, hr, rfl⟩
    · cases e
theorem jr_enm {H0 : Hp} {m0 : List Addr} {a : Nat} {p : Addr} {K : PySem.W.Frag} (ha : m0[a]? = some p) : JR G H0 m0 (.enm a) (Ite K p) := by
  intro m H h i g hr
  have hm := g.ext _ _ ha
  constructor
  · intro e
    simp only [itAt, Option.map_eq_some_iff] at e
    obtain ⟨xs, e1, e2⟩ := e
    obtain ⟨p', ps, m1, h1, rs⟩ := lstAt_rel hr e1
    rw [hm] at m1; cases m1
    refine ⟨ps, .inl (.inl h1), ?_⟩
    rw [rs.length]; simpa using e2
  · intro v e
    simp only [itAt, Option.map_eq_some_iff] at e
    obtain ⟨xs, e1, w, e2, e5⟩ := e
    obtain ⟨p', ps, m1, h1, rs⟩ := lstAt_rel hr e1
    rw [hm] at m1; cases m1
    obtain ⟨y, e3, r3⟩ := rs.get e2
    refine ⟨⟨ps, y, .inl (.inl h1), e3⟩, fun x H' y2 => ?_⟩
    obtain ⟨T, y', rfl, nT, rfl, f⟩ := y2
    have := f ps (.inl (.inl h1))
    rw [e3] at this; cases this
    subst e5
    obtain ⟨b1, b2, b3⟩ := newT (xs := [.int i, w]) (ys := [.int i, y]) hr ⟨_, _, rfl, rfl, RVs.one r3⟩ nT
    exact ⟨b2, b1, b3⟩
theorem jr_zip {H0 : Hp} {m0 : List Addr} {a b : Nat} {p q : Addr} {K : PySem.W.Frag} (ha : m0[a]? = some p) (hb : m0[b]? = some q) : JR G H0 m0 (.zip a b) (Itz K p q) := by
  intro m H h i g hr
  have hm := g.ext _ _ ha
  have hm2 := g.ext _ _ hb
  constructor
  · intro e
    simp only [itAt] at e
    split at e
    · rename_i xs ys e1 e2
      obtain ⟨p', ps, m1, h1, rs⟩ := lstAt_rel hr e1
      rw [hm] at m1; cases m1
      obtain ⟨q', qs, m2, h2, rs2⟩ := lstAt_rel hr e2
      rw [hm2] at m2; cases m2
      refine ⟨ps, qs, .inl (.inl h1), .inl (.inl h2), ?_⟩
      rw [rs.length, rs2.length]
      have e := Option.some.inj e
      by_cases hx : i < xs.length
      · right
        by_cases hy : i < ys.length
        · rw [List.getElem?_eq_getElem hx, List.getElem?_eq_getElem hy] at e; cases e
        · omega
      · left; omega
    · cases e
  · intro v e
    simp only [itAt] at e
    split at e
    · rename_i xs ys e1 e2
      have e := Option.some.inj e
      split at e
      · rename_i v1 w1 e3 e4
        cases e
        obtain ⟨p', ps, m1, h1, rs⟩ := lstAt_rel hr e1
        rw [hm] at m1; cases m1
        obtain ⟨q', qs, m2, h2, rs2⟩ := lstAt_rel hr e2
        rw [hm2] at m2; cases m2
        obtain ⟨y, e5, r5⟩ := rs.get e3
        obtain ⟨z, e6, r6⟩ := rs2.get e4
        refine ⟨⟨ps, qs, y, z, .inl (.inl h1), .inl (.inl h2), e5, e6⟩, fun x H' y2 => ?_⟩
        obtain ⟨T, y', z', rfl, nT, rfl, f, f2⟩ := y2
        have := f ps (.inl (.inl h1))
        rw [e5] at this; cases this
        have := f2 qs (.inl (.inl h2))
        rw [e6] at this; cases this
        obtain ⟨b1, b2, b3⟩ := newT (xs := [v1, w1]) (ys := [y, z]) hr ⟨_, _, rfl, r5, RVs.one r6⟩ nT
        exact ⟨b2, b1, b3⟩
      · cases e
    · cases e
/-- a list as what is walked (the loop's text alone does not tell: three rules) -/
def iLst (e : EM) : IM := fun σ h => (e σ h).bind fun x h1 => match x with
  | .ref a => match lstAt h1 a with
    | some _ => .ok (.lst a) h1
    | none => .bad
  | _ => .bad
def iTp (e : EM) : IM := fun σ h => (e σ h).bind fun x h1 => match x with
  | .tup xs => .ok (.tup xs) h1
  | _ => .bad
def iSt (e : EM) : IM := fun σ h => (e σ h).bind fun x h1 => match x with
  | .str z => .ok (.str z) h1
  | _ => .bad
theorem mi_lst (he : ME G X W e ce) : MI G X W tg e (iLst ce) := PI.weak (pi_list he) fun σ' H R q => by
  obtain ⟨m, σ, h, r, s⟩ := q
  unfold iLst at s
  rw [sat_bind] at s
  refine tE.of r s (fun _ _ _ e => e) fun x h1 m1 H1 x' s1 g1 r1 rx => ?_
  cases x with
  | ref a =>
    simp only at s1
    split at s1
    · rename_i xs e1
      obtain ⟨p, ps, m2, h2, rs⟩ := lstAt_rel r1.hr e1
      exact ⟨p, rx.refp m2, ⟨ps, .inl (.inl h2)⟩, s1 m1 H1 _ g1 r1.hr (jr_lst m2)⟩
    · exact s1.elim
  | _ => exact s1.elim
theorem mi_tup (hK : X.K = G.K) (he : ME G X W e ce) : MI G X W tg e (iTp ce) := PI.weak (pi_tup he) fun σ' H R q => by
  obtain ⟨m, σ, h, r, s⟩ := q
  unfold iTp at s
  rw [sat_bind] at s
  refine tE.of r s (fun _ _ _ e => e) fun x h1 m1 H1 x' s1 g1 r1 rx => ?_
  cases x with
  | tup xs =>
    obtain ⟨p, ps, ex, f, rs⟩ := rx
    refine ⟨p, ex, ⟨ps, hK ▸ f.sq⟩, ?_⟩
    rw [hK]
    exact s1 m1 H1 _ g1 r1.hr (jr_tup f rs)
  | _ => exact s1.elim
theorem mi_str (he : ME G X W e ce) : MI G X W tg e (iSt ce) := PI.weak (pi_str he) fun σ' H R q => by
  obtain ⟨m, σ, h, r, s⟩ := q
  unfold iSt at s
  rw [sat_bind] at s
  refine tE.of r s (fun _ _ _ e => e) fun x h1 m1 H1 x' s1 g1 r1 rx => ?_
  cases x with
  | str z => exact ⟨z, rx, s1 m1 H1 _ g1 r1.hr jr_str⟩
  | _ => exact s1.elim
theorem mi_range1 {a : Expr} {ca : AM} {p : Pos} (hg : Gl X "range") (hm : X.mg "range" = none) (ha : MA G X W [a] ca) (hs : starEach [a] X.env = [(false, eval a X.env)] := by rfl) : MI G X W tg (.Call (.Name "range" p) [a] [] pos) (iRng1 ca) := PI.weak (pi_range1 hg hm ha hs) fun σ' H R q => by
  obtain ⟨m, σ, h, r, s⟩ := q
  unfold iRng1 at s
  rw [sat_bind] at s
  refine tA.of r s (fun _ _ _ e => e) fun xs h1 m1 H1 xs' s1 g1 r1 rx => ?_
  split at s1
  · split at s1
    · rename_i hc
      obtain ⟨y, ey, ry⟩ := rx.of1
      cases (show y = _ from ry)
      exact ⟨_, ey, by omega, by omega, s1 m1 H1 _ g1 r1.hr jr_rng⟩
    · exact s1.elim
  · exact s1.elim
theorem mi_range2 {a b : Expr} {ca : AM} {p : Pos} (hg : Gl X "range") (hm : X.mg "range" = none) (ha : MA G X W [a, b] ca) (hs : starEach [a, b] X.env = [(false, eval a X.env), (false, eval b X.env)] := by rfl) (hs2 : starEach [b] X.env = [(false, eval b X.env)] := by rfl) : MI G X W tg (.Call (.Name "range" p) [a, b] [] pos) (iRng2 ca) := PI.weak (pi_range2 hg hm ha hs hs2) fun σ' H R q => by
  obtain ⟨m, σ, h, r, s⟩ := q
  unfold iRng2 at s
  rw [sat_bind] at s
  refine tA.of r s (fun _ _ _ e => e) fun xs h1 m1 H1 xs' s1 g1 r1 rx => ?_
  split at s1
  · split at s1
    · rename_i hc
      obtain ⟨y, y2, ey, ry, ry2⟩ := rx.of2
      cases (show y = _ from ry)
      cases (show y2 = _ from ry2)
      exact ⟨_, _, ey, ⟨by omega, by omega, by omega, by omega⟩, s1 m1 H1 _ g1 r1.hr jr_rng⟩
    · exact s1.elim
  · exact s1.elim
theorem mi_enum {ca : AM} {p tpos : Pos} {elts : List Expr} {kk : Nat} (hg : Gl X "enumerate") (hm : X.mg "enumerate" = none) (ha : MA G X W [e] ca) (hs : starEach [e] X.env = [(false, eval e X.env)] := by rfl) : MI G X W (.Tuple elts kk tpos) (.Call (.Name "enumerate" p) [e] [] pos) (iEnm ca) := PI.weak (pi_enum hg hm ha hs) fun σ' H R q => by
  obtain ⟨m, σ, h, r, s⟩ := q
  unfold iEnm at s
  rw [sat_bind] at s
  refine tA.of r s (fun _ _ _ e => e) fun xs h1 m1 H1 xs' s1 g1 r1 rx => ?_
  split at s1
  · split at s1
    · rename_i e1
      obtain ⟨y, ey, ry⟩ := rx.of1
      obtain ⟨p, ps, m2, h2, rs⟩ := lstAt_rel r1.hr e1
      have := ry.refp m2
      subst this
      exact ⟨p, ps, ey, .inl (.inl h2), s1 m1 H1 _ g1 r1.hr (jr_enm m2)⟩
    · exact s1.elim
  · exact s1.elim
theorem mi_zip {ca : AM} {p tpos : Pos} {elts : List Expr} {kk : Nat} (hg : Gl X "zip") (hm : X.mg "zip" = none) (ha : MA G X W [e, e2] ca) (hs : starEach [e, e2] X.env = (false, eval e X.env) :: starEach [e2] X.env := by rfl) (hs2 : ((backTo pos (starEach [e2] X.env)).any fun x => x.fst) = false := by rfl) : MI G X W (.Tuple elts kk tpos) (.Call (.Name "zip" p) [e, e2] [] pos) (iZp ca) := PI.weak (pi_zip hg hm ha hs hs2) fun σ' H R q => by
  obtain ⟨m, σ, h, r, s⟩ := q
  unfold iZp at s
  rw [sat_bind] at s
  refine tA.of r s (fun _ _ _ e => e) fun xs h1 m1 H1 xs' s1 g1 r1 rx => ?_
  split at s1
  · split at s1
    · rename_i e1 e2
      obtain ⟨y, y2, ey, ry, ry2⟩ := rx.of2
      obtain ⟨p, ps, m2, h2, rs⟩ := lstAt_rel r1.hr e1
      obtain ⟨q, qs, m3, h3, rs3⟩ := lstAt_rel r1.hr e2
      have := ry.refp m2
      subst this
      have := ry2.refp m3
      subst this
      exact ⟨p, q, ps, qs, ey, .inl (.inl h2), .inl (.inl h3), s1 m1 H1 _ g1 r1.hr (jr_zip m2 m3)⟩
    · exact s1.elim
  · exact s1.elim
/-! ### for -/
/-- the target: one name, or a row of names -/
inductive Tg where
  | one (i : Nat) | row (is : List Nat)
def Tg.put (t : Tg) (v : Pv) (σ : Sg) : Option Sg := match t with
  | .one i => some (σ.set i (some v))
  | .row is => unTup is v σ
def Tg.g (K : PySem.W.Frag) : Tg → TG
  | .one i => gName i
  | .row is => gTup K is.length (gNs is)
def forF (J : Itv) (t : Tg) (b : SM) : Nat → Nat → Sg → Hh → Rs Fl
  | 0, _, _, _ => .bad
  | n + 1, i, σ, h => match itAt J i h with
    | none => .bad
    | some none => .ok (.nx σ) h
    | some (some v) => match t.put v σ with
      | none => .bad
      | some σ1 => (b σ1 h).bind fun f h2 => match f with
        | .nx σ2 => forF J t b n (i + 1) σ2 h2
        | .ct σ2 => forF J t b n (i + 1) σ2 h2
        | .bk σ2 => .ok (.nx σ2) h2
        | f => .ok f h2
def sFor (it : IM) (t : Tg) (b : SM) : SM := fun σ h => (it σ h).stm σ fun J h1 => forF J t b fuelN 0 σ h1
theorem Tg.of {H : Hp} {m : List Addr} {t : Tg} {v : Pv} {v' : V} {σ σ2 : Sg} {σ' : L2.St} {Q : L2.St → Hp → Prop} (hK : X.K = G.K) (e : t.put v σ = some σ2) (r : RV G H m v v') (sr : SR G H m σ σ') (k : ∀ σ2', SR G H m σ2 σ2' → Q σ2' H) : t.g X.K v' σ' H Q := by
  cases t with
  | one i =>
    cases (Option.some.inj e)
    exact k _ (sr.set i r)
  | row is => exact unTup_of hK e r sr rfl k
theorem ms_for {iter : Expr} {body : List Stmt} {ci : IM} {t : Tg} {cb : SM} (hK : X.K = G.K) (hp : PassesOwn (model X.prog X.w) X.A X.env X.xe) (hc : X.calm = true) (hi : MI G X W tg iter ci) (hg : PG X tg (t.g X.K)) (hb : MSs G X W body cb)
    (hs : ∀ x, foldedSetIterable iter X.env x = pure x := by intro _; rfl) : MS G X W (.For tg iter body [] pos) (sFor ci t cb) := PS.weak (ps_for hp hc hi hg hb hs) fun D σ' H q => by
  obtain ⟨m, σ, h, r, s⟩ := q
  have s := sat_stm r s
  refine ⟨m, σ, h, r, s.mono (fun J h1 s1 m1 H1 J' g1 r1 jr => ?_) fun _ _ _ e => e⟩
  have s1 := Sat.fk s1 g1
  refine ⟨fun i n σ' H => ∃ m σ h, Gr G H1 m1 H m ∧ Rel G H m h σ σ' ∧ Sat (forF J t cb n i σ h) (FK G W H m D) NoX, ⟨fuelN, m1, σ, h1, Gr.refl, r.gr g1 r1, s1⟩, fun i n σ' H w => ?_⟩
  obtain ⟨m, σ, h, g, r, s⟩ := w
  cases n with
  | zero => exact s.elim
  | succ n =>
    unfold forF at s
    obtain ⟨j1, j2⟩ := jr m H h i g r.hr
    cases e : itAt J i h with
    | none => rw [e] at s; exact s.elim
    | some o =>
      rw [e] at s
      cases o with
      | none => exact .inl ⟨j1 e, s m H Gr.refl r.hr σ' r.sr⟩
      | some v =>
        simp only at s
        obtain ⟨go, yl⟩ := j2 v e
        refine .inr ⟨go, fun σ' H => ∃ m σ h, Gr G H1 m1 H m ∧ Rel G H m h σ σ' ∧ Sat (forF J t cb n (i + 1) σ h) (FK G W H m D) NoX, fun σ2 H2 w => ⟨n, Nat.lt_succ_self n, w⟩, fun x H' y => ?_⟩
        obtain ⟨g2, r2, rx⟩ := yl x H' y
        cases e2 : t.put v σ with
        | none => rw [e2] at s; exact s.elim
        | some σ1 =>
          rw [e2] at s
          refine Tg.of hK e2 rx (r.sr.gr g2) fun σ1' sr1 => ?_
          have s := Sat.fk s g2
          rw [sat_bind] at s
          refine ⟨m, σ1, h, ⟨r2, sr1⟩, s.mono (fun f h3 s3 m3 H3 g3 r3 => ?_) fun _ _ _ e => e⟩
          cases f with
          | nx σ2 => exact fun σ2' sr => ⟨m3, σ2, h3, g.trans (g2.trans g3), ⟨r3, sr⟩, Sat.fk s3 g3⟩
          | ct σ2 => exact fun σ2' sr => ⟨m3, σ2, h3, g.trans (g2.trans g3), ⟨r3, sr⟩, Sat.fk s3 g3⟩
          | bk σ2 => exact s3 m3 H3 g3 r3
          | rt v => exact s3 m3 H3 g3 r3
          | xc σ2 c fs => exact s3 m3 H3 g3 r3
/-! ### comprehensions -/
def wipeP (σ : Sg) : List Nat → Sg
  | [] => σ
  | v :: vs => (wipeP σ vs).set v none
def lcF (J : Itv) (t : Tg) (tt : BM) (te : EM) (d : Nat) (σ0 : Sg) : Nat → Nat → Hh → Rs Pv
  | 0, _, _ => .bad
  | n + 1, i, h => match itAt J i h with
    | none => .bad
    | some none => .ok (.ref d) h
    | some (some v) => match t.put v σ0 with
      | none => .bad
      | some σ1 => match tt σ1 h with
        | .ok b h2 => if b then (match te σ1 h2 with
          | .ok y h3 => (match lstAt h3 d with
            | some acc => if acc.length < 1000000 then lcF J t tt te d σ0 n (i + 1) (h3.set d (.lst (acc ++ [y]))) else .bad
            | none => .bad)
          | _ => .bad) else lcF J t tt te d σ0 n (i + 1) h2
        | _ => .bad
def eLc (it : IM) (t : Tg) (tt : BM) (te : EM) (vs : List Nat) : EM := fun σ h => (it σ h).bind fun J h1 => lcF J t tt te h1.length (wipeP σ vs) fuelN 0 (h1 ++ [.lst []])
def bYes : BM := fun _ h => .ok true h
theorem wipe_sr {H : Hp} {m : List Addr} {σ : Sg} {σ' : L2.St} (sr : SR G H m σ σ') : ∀ vs : List Nat, SR G H m (wipeP σ vs) (wipe σ' vs)
  | [] => sr
  | v :: vs => by
    have ih := wipe_sr sr vs
    refine ⟨by simp [wipeP, wipe, ih.len], fun i x e => ?_⟩
    unfold wipeP at e
    by_cases hi : v = i
    · subst hi
      by_cases hv : v < (wipeP σ vs).length
      · rw [List.getElem?_set_self hv] at e; cases e
      · rw [List.getElem?_eq_none (by simpa using hv)] at e; cases e
    · rw [List.getElem?_set_ne hi] at e
      obtain ⟨y, e1, r1⟩ := ih.at' i x e
      exact ⟨y, by unfold wipe; rw [List.getElem?_set_ne hi]; exact e1, r1⟩
/-- the slots that a target stores are among vs -/
def Tg.within (t : Tg) (vs : List Nat) : Bool := match t with
  | .one i => vs.contains i
  | .row is => is.all fun i => vs.contains i
theorem wipe_len (σ : L2.St) : ∀ vs : List Nat, (wipe σ vs).length = σ.length := wipe_length σ
theorem wipe_get (σ : L2.St) (j : Nat) : ∀ (vs : List Nat), (wipe σ vs)[j]? = if j ∈ vs then (if j < σ.length then some none else none) else σ[j]?
  | [] => by simp [wipe]
  | v :: vs => by
    unfold wipe
    by_cases hj : v = j
    · subst hj
      rw [List.getElem?_set]
      simp [wipe_length]
    · rw [List.getElem?_set_ne hj, wipe_get σ j vs]
      have : (j ∈ v :: vs) ↔ j ∈ vs := by simp [Ne.symm hj]
      simp [this]
theorem wipe_set {σ : L2.St} {i : Nat} {x : Option V} {vs : List Nat} (h : i ∈ vs) : wipe (σ.set i x) vs = wipe σ vs := by
  apply List.ext_getElem?
  intro j
  rw [wipe_get, wipe_get]
  by_cases hj : j ∈ vs
  · simp [hj]
  · have : i ≠ j := fun e => hj (e ▸ h)
    simp [hj, List.getElem?_set_ne this]
theorem wipe_wipe {σ : L2.St} {vs : List Nat} : wipe (wipe σ vs) vs = wipe σ vs := by
  apply List.ext_getElem?
  intro j
  rw [wipe_get, wipe_get]
  by_cases hj : j ∈ vs <;> simp [hj, wipe_length]
theorem gNs_wipe {H : Hp} {m : List Addr} {vs0 : List Nat} : ∀ {is : List Nat} {vs : List Pv} {vs' : List V} {σ σ2 : Sg} {σ' : L2.St} {Q : L2.St → Hp → Prop}, (∀ i ∈ is, i ∈ vs0) → setAll is vs σ = some σ2 → RVs G H m vs vs' → SR G H m σ σ' → (∀ σ2', wipe σ2' vs0 = wipe σ' vs0 → SR G H m σ2 σ2' → Q σ2' H) → gNs is vs' σ' H Q
  | [], [], _, σ, σ2, σ', Q, _, e, r, sr, k => by
    cases (Option.some.inj e)
    exact ⟨r, k σ' rfl sr⟩
  | i :: is, v :: vs, _, σ, σ2, σ', Q, hw, e, ⟨y, zs, ey, r, rs⟩, sr, k => by
    subst ey
    refine ⟨y, zs, rfl, gNs_wipe (is := is) (fun j hj => hw j (List.mem_cons_of_mem _ hj)) e rs (sr.set i r) fun σ2' h1 h2 => k σ2' ?_ h2⟩
    rw [h1, wipe_set (hw i List.mem_cons_self)]
  | [], _ :: _, _, _, _, _, _, _, e, _, _, _ => by cases e
  | _ :: _, [], _, _, _, _, _, _, e, _, _, _ => by cases e
theorem Tg.ofW {H : Hp} {m : List Addr} {t : Tg} {v : Pv} {v' : V} {σ σ2 : Sg} {σ' : L2.St} {vs : List Nat} {Q : L2.St → Hp → Prop} (hK : X.K = G.K) (hw : t.within vs = true) (e : t.put v σ = some σ2) (r : RV G H m v v') (sr : SR G H m σ σ') (k : ∀ σ2', wipe σ2' vs = wipe σ' vs → SR G H m σ2 σ2' → Q σ2' H) : t.g X.K v' σ' H Q := by
  cases t with
  | one i =>
    cases (Option.some.inj e)
    exact k _ (wipe_set (by simpa [Tg.within] using hw)) (sr.set i r)
  | row is =>
    cases v with
    | tup xs =>
      obtain ⟨p, ps, ev, f, rs⟩ := r
      have e' : setAll is xs σ = some σ2 := e
      exact ⟨p, ps, ev, hK ▸ f.sq, by rw [rs.length, setAll_len e'], gNs_wipe (by simpa [Tg.within] using hw) e' rs sr k⟩
    | _ => cases e
theorem lc_in {ci : IM} {t : Tg} {tt : BM} {te : EM} {vs : List Nat} {H : Hp} {σ' : L2.St} {Q : VK} (hK : X.K = G.K) (hw : t.within vs = true) (q : tE G W (eLc ci t tt te vs) σ' H Q) :
    tLc (tI G W ci) (t.g X.K) (tB G (fun _ _ _ _ => False) tt) (tE G (fun _ _ _ _ => False) te) vs σ' H Q := by
  obtain ⟨m, σ, h, r, s⟩ := q
  unfold eLc at s
  rw [sat_bind] at s
  refine ⟨m, σ, h, r, s.mono (fun J h1 s1 m1 H1 J' g1 r1 jr => ?_) fun _ _ _ e => e⟩
  intro D nD
  obtain ⟨b1, b2, b3⟩ := newL (xs := []) (ys := []) r1 rfl nD
  have hd : (m1 ++ [D])[h1.length]? = some D := by rw [← r1.len]; simp
  refine ⟨fun i n H => ∃ m h, Gr G (upd H1 D (.lst [])) (m1 ++ [D]) H m ∧ HR G H m h ∧ m[h1.length]? = some D ∧
      Sat (lcF J t tt te h1.length (wipeP σ vs) n i h) (fun v h' => ∀ m' H' v', Gr G H m H' m' → HR G H' m' h' → RV G H' m' v v' → Q v' H') (fun _ _ _ => False), ?_, fun i n H w => ?_⟩
  · refine ⟨fuelN, m1 ++ [D], h1 ++ [.lst []], Gr.refl, b1, hd, ?_⟩
    have noex : ∀ n i h c fs h', lcF J t tt te h1.length (wipeP σ vs) n i h ≠ .ex c fs h' := by
      intro n
      induction n with
      | zero => intro i h c fs h' e; cases e
      | succ n ih =>
        intro i h c fs h' e
        unfold lcF at e
        repeat' split at e
        all_goals first
          | cases e; done
          | exact ih _ _ _ _ _ e
    cases q : lcF J t tt te h1.length (wipeP σ vs) fuelN 0 (h1 ++ [.lst []]) with
    | ok v h' =>
      rw [q] at s1
      exact fun m' H' v' g' r' rv => s1 m' H' v' (g1.trans (b2.trans g')) r' rv
    | ex c fs h' => exact absurd q (noex _ _ _ _ _ _)
    | bad => rw [q] at s1; exact s1.elim
  · obtain ⟨m, h, g, hr, hdm, s⟩ := w
    cases n with
    | zero => exact s.elim
    | succ n =>
      unfold lcF at s
      obtain ⟨j1, j2⟩ := jr m H h i (b2.trans g) hr
      have sr0 : SR G H m (wipeP σ vs) (wipe σ' vs) := wipe_sr ((r.sr.gr g1).gr (b2.trans g)) vs
      cases e : itAt J i h with
      | none => rw [e] at s; exact s.elim
      | some o =>
        rw [e] at s
        cases o with
        | none => exact .inl ⟨j1 e, s m H _ Gr.refl hr ⟨D, rfl, hdm⟩⟩
        | some v =>
          simp only at s
          obtain ⟨go, yl⟩ := j2 v e
          refine .inr ⟨go, fun H => ∃ m h, Gr G (upd H1 D (.lst [])) (m1 ++ [D]) H m ∧ HR G H m h ∧ m[h1.length]? = some D ∧
            Sat (lcF J t tt te h1.length (wipeP σ vs) n (i + 1) h) (fun v h' => ∀ m' H' v', Gr G H m H' m' → HR G H' m' h' → RV G H' m' v v' → Q v' H') (fun _ _ _ => False), fun H2 w => ⟨n, Nat.lt_succ_self n, w⟩, fun x H' y => ?_⟩
          obtain ⟨g2, r2, rx⟩ := yl x H' y
          cases e2 : t.put v (wipeP σ vs) with
          | none => rw [e2] at s; exact s.elim
          | some σ1 =>
            rw [e2] at s
            simp only at s
            refine Tg.ofW hK hw e2 rx (sr0.gr g2) fun σ1' hwp sr1 => ⟨by rw [hwp, wipe_wipe], ?_⟩
            cases e3 : tt σ1 h with
            | ok b h2 =>
              rw [e3] at s
              simp only at s
              refine ⟨m, σ1, h, ⟨r2, sr1⟩, ?_⟩
              rw [e3]
              intro m3 H3 g3 r3
              have g23 := g2.trans g3
              cases b with
              | false =>
                rw [if_neg Bool.false_ne_true] at s
                rw [if_neg Bool.false_ne_true]
                exact ⟨m3, h2, g.trans g23, r3, g3.ext _ _ hdm, s.mono (fun v h' z m' H' v' g' r' rv => z m' H' v' (g23.trans g') r' rv) fun _ _ _ e => e⟩
              | true =>
                rw [if_pos rfl] at s
                rw [if_pos rfl]
                cases e4 : te σ1 h2 with
                | ok y h3 =>
                  rw [e4] at s
                  simp only at s
                  refine ⟨m3, σ1, h2, ⟨r3, sr1.gr g3⟩, ?_⟩
                  rw [e4]
                  intro m4 H4 y' g4 r4 ry
                  cases e5 : lstAt h3 h1.length with
                  | none => rw [e5] at s; exact s.elim
                  | some acc =>
                    rw [e5] at s
                    simp only at s
                    split at s
                    · rename_i hl
                      have e6 : h3[h1.length]? = some (.lst acc) := by
                        unfold lstAt at e5
                        split at e5
                        · rename_i z; cases e5; exact z
                        · cases e5
                      obtain ⟨p, ps, m5, h5, rs⟩ := r4.lst e6
                      have hd4 := g4.ext _ _ (g3.ext _ _ hdm)
                      rw [hd4] at m5; cases m5
                      obtain ⟨c1, c2⟩ := putL r4 e6 hd4 (RVs.app rs (RVs.one ry))
                      exact ⟨ps, h5, by rw [rs.length]; exact lim_lt hl, m4, _, g.trans (g23.trans (g4.trans c2)), c1, hd4, s.mono (fun v h' z m' H' v' g' r' rv => z m' H' v' (g23.trans (g4.trans (c2.trans g'))) r' rv) fun _ _ _ e => e⟩
                    · exact s.elim
                | ex c fs h3 => rw [e4] at s; exact s.elim
                | bad => rw [e4] at s; exact s.elim
            | ex c fs h2 => rw [e3] at s; exact s.elim
            | bad => rw [e3] at s; exact s.elim
abbrev W0 : WX' := fun _ _ _ _ => False
theorem mts_nil {X : Cx} : PTs X [] (tB G W0 bYes) := ⟨fun pins s σ' H Q I q => (pts_nil (X := X)).run pins s σ' H Q I (by
  obtain ⟨m, σ, h, r, s⟩ := q
  exact s m H Gr.refl r.hr)⟩
theorem mts_one {X : Cx} {c : Expr} {bc : BM} (h : MB G X W0 c bc) : PTs X [c] (tB G W0 bc) := pts_one h
theorem me_lc {elt iter : Expr} {ifs : List Expr} {scope : Scope} {own : List (Str × Nat)} {ci : IM} {t : Tg} {tt : BM} {te : EM} (hK : X.K = G.K) (hc : X.calm = true) (hN : X.N.Nodup) (hi : MI G X W tg iter ci) (ok : BlkOk X.N X.env.scope scope own) (hw : t.within (own.map (·.2)) = true)
    (hg : ∀ (s : Shared) (H : Hp) (C : Addr) (cl : List (Str × Addr)) (fp : List Addr), PG (X.blk s H scope (compEnvC scope cl C X.env) fp) tg (t.g X.K)) (ht : ∀ (s : Shared) (H : Hp) (C : Addr) (cl : List (Str × Addr)) (fp : List Addr), PTs (X.blk s H scope (compEnvC scope cl C X.env) fp) ifs (tB G W0 tt))
    (he : ∀ (s : Shared) (H : Hp) (C : Addr) (cl : List (Str × Addr)) (fp : List Addr), ME G (X.blk s H scope (compEnvC scope cl C X.env) fp) W0 elt te) (hs : ∀ x, foldedSetIterable iter X.env x = pure x := by intro _; rfl) :
    ME G X W (.ListComp elt [⟨tg, iter, ifs, 0⟩] scope pos) (eLc ci t tt te (own.map (·.2))) :=
  PE.weak (pe_lc hc hN hi ok hg ht he hs) fun σ' H Q q => lc_in hK hw q
theorem ms_setLc {i : Nat} {y : Str} {py spos : Pos} {elt iter : Expr} {ifs : List Expr} {scope : Scope} {own : List (Str × Nat)} {ci : IM} {t : Tg} {tt : BM} {te : EM} (hK : X.K = G.K) (hc : X.calm = true) (hN : X.N.Nodup) (hy : X.N[i]? = some y) (hyl : X.env.scope.names.lookup y = some .local)
    (hsw : swapsWith (.ListComp elt [⟨tg, iter, ifs, 0⟩] scope pos) (some (.Name y py)) spos.line X.env = pure true) (hi : MI G X W tg iter ci) (ok : BlkOk X.N X.env.scope scope own) (hw : t.within (own.map (·.2)) = true)
    (hg : ∀ (s : Shared) (H : Hp) (C : Addr) (cl : List (Str × Addr)) (fp : List Addr), PG (X.blk s H scope (compEnvC scope cl C X.env) fp) tg (t.g X.K)) (ht : ∀ (s : Shared) (H : Hp) (C : Addr) (cl : List (Str × Addr)) (fp : List Addr), PTs (X.blk s H scope (compEnvC scope cl C X.env) fp) ifs (tB G W0 tt))
    (he : ∀ (s : Shared) (H : Hp) (C : Addr) (cl : List (Str × Addr)) (fp : List Addr), ME G (X.blk s H scope (compEnvC scope cl C X.env) fp) W0 elt te) (hs : ∀ x, foldedSetIterable iter X.env x = pure x := by intro _; rfl) :
    MS G X W (.Assign [.Name y py] (.ListComp elt [⟨tg, iter, ifs, 0⟩] scope pos) spos) (sSet i (eLc ci t tt te (own.map (·.2)))) :=
  PS.weak (ps_setLc hc hN hy hyl hsw hi ok hg ht he hs) fun D σ' H q => by
    refine lc_in hK hw ?_
    obtain ⟨m, σ, h, r, s⟩ := q
    exact tE.of r (sat_stm r s) (fun _ _ _ e => e) fun v h1 m1 H1 v' s1 g1 r1 rv => s1 m1 H1 g1 r1.hr _ (r1.sr.set i rv)
end
end Mi
namespace Mi
open PySem PySem.Spec PyProof.Rows L2
/-! ### what is walked, whatever it is -/
def iAny (e : EM) : IM := fun σ h => (e σ h).bind fun x h1 => match x with
  | .tup xs => .ok (.tup xs) h1
  | .str z => .ok (.str z) h1
  | .ref a => match lstAt h1 a with
    | some _ => .ok (.lst a) h1
    | none => .bad
  | _ => .bad
section
variable {G : Gm} {X : Cx} {W : WX'} {pos p2 apos cpos : Pos} {e tg : Expr} {ce : EM}
theorem mi_any (hK : X.K = G.K) (he : ME G X W e ce) : MI G X W tg e (iAny ce) := ⟨fun pins s σ' H R I q => by
  obtain ⟨m, σ, h, r, st⟩ := q
  cases q : ce σ h with
  | bad => unfold iAny at st; rw [q] at st; exact st.elim
  | ex c fs h1 =>
    unfold iAny at st; rw [q] at st
    refine (mi_tup (tg := tg) hK he).run pins s σ' H R I ⟨m, σ, h, r, ?_⟩
    unfold iTp; rw [q]; exact st
  | ok x h1 =>
    unfold iAny at st; rw [q] at st
    cases x with
    | tup xs =>
      refine (mi_tup (tg := tg) hK he).run pins s σ' H R I ⟨m, σ, h, r, ?_⟩
      unfold iTp; rw [q]; exact st
    | str z =>
      refine (mi_str (tg := tg) he).run pins s σ' H R I ⟨m, σ, h, r, ?_⟩
      unfold iSt; rw [q]; exact st
    | ref a =>
      refine (mi_lst (tg := tg) he).run pins s σ' H R I ⟨m, σ, h, r, ?_⟩
      unfold iLst; rw [q]; exact st
    | _ => exact st.elim⟩
/-! ### defs -/
abbrev DM := List Pv → Hh → Rs Pv
def XK' (G : Gm) (H : Hp) (m : List Addr) (E : XK) : Nat → List (Str × Pv) → Hh → Prop := fun c fs h' => ∀ m' H' cls d, Gr G H m H' m' → HR G H' m' h' → XR G H' m' c fs cls d → E cls d H'
def spM (G : Gm) (n : Nat) (g : DM) : Sp := fun vs' H Q E => ∃ m h vs, HR G H m h ∧ RVs G H m vs vs' ∧ vs.length = n ∧
  Sat (g vs h) (fun v h' => ∀ m' H' v', Gr G H m H' m' → HR G H' m' h' → RV G H' m' v v' → Q v' H') (XK' G H m E)
def eCall (n : Nat) (g : DM) (a : AM) (ds : List Pv) : EM := fun σ h => (a σ h).bind fun vs h1 => if (vs ++ ds).length = n then g (vs ++ ds) h1 else .bad
theorem me_call {k n : Nat} {f : Addr} {fd : FuncData} {ps : List Str} {g : DM} {dvs : List V} {ds : List Value} {dps : List Pv} {x : Str} {p : Pos} {es : List Expr} {ca : AM}
    (F : FnOk X.prog X.w X.K X.mg X.base (L2.CX X.prog X.w) k f fd ps (spM G n g)) (hr : Room k X.A) (hg : Gl X x) (hm : X.mg x = some (.ref f)) (hk : PySem.W.keepIn X.K (.ref f) = true) (hb : L2.Binds X.K fd ps ds) (hd : Vals dvs ds) (hdp : ∀ H m, RVs G H m dps dvs) (tk : Takes X W)
    (ha : MA G X W (e :: es) ca) (hdb : (x == ("__debug__" : Str)) = false := by decide) (he : starEach (e :: es) X.env = (false, eval e X.env) :: starEach es X.env := by rfl) (hpl : (backTo pos (starEach es X.env)).any (·.1) = false := by rfl) :
    ME G X W (.Call (.Name x p) (e :: es) [] pos) (eCall n g ca dps) :=
  PE.weak (pe_callSD F hr hg hm hk hb hd (fun σ => passAt tk σ) ha hdb he hpl) fun σ' H Q q => by
    obtain ⟨m, σ, h, r, s⟩ := q
    unfold eCall at s
    rw [sat_bind] at s
    refine tA.of r s (fun _ _ _ e => e) fun vs h1 m1 H1 vs' s1 g1 r1 rv => ?_
    split at s1
    · rename_i hn
      refine ⟨m1, h1, vs ++ dps, r1.hr, RVs.app rv (hdp H1 m1), hn, s1.mono (fun v h' z m' H' v' g' r' rv' => z m' H' v' (g1.trans g') r' rv') fun c fs h' z => ?_⟩
      exact fun m' H' cls d g' r' x => z m' H' cls d (g1.trans g') r' x
    · exact s1.elim
/-- a def's meaning: n slots, its body -/
def fnM (n : Nat) (body : SM) : DM := fun vs h => match body (vs.map some ++ List.replicate (n - vs.length) none) h with
  | .ok (.rt v) h' => .ok v h'
  | .ok (.nx _) h' => .ok .non h'
  | .ok (.xc _ c fs) h' => .ex c fs h'
  | _ => .bad
theorem sr_start {H : Hp} {m : List Addr} {vs : List Pv} {vs' : List V} (r : RVs G H m vs vs') (N : List Str) : SR G H m (vs.map some ++ List.replicate (N.length - vs.length) none) (L2.start N vs') := by
  unfold L2.start
  rw [r.length]
  refine ⟨by simp [r.length], fun i x e => ?_⟩
  rw [List.getElem?_append] at e ⊢
  simp only [List.length_map] at e ⊢
  rw [r.length]
  split at e
  · rename_i hi
    rw [if_pos hi]
    rw [List.getElem?_map] at e
    cases q : vs[i]? with
    | none => rw [q] at e; cases e
    | some z =>
      rw [q] at e
      cases e
      obtain ⟨y, e1, r1⟩ := r.get q
      exact ⟨y, by rw [List.getElem?_map, e1]; rfl, r1⟩
  · rename_i hi
    rw [List.getElem?_replicate] at e
    split at e <;> cases e
/-- THE RULE for a def -/
theorem fn_ok {P : Program} {w : World} {mg : Str → Option Value} {base : Heap} {x qual : Str} {st : Stmt} {f : Addr} {fd : FuncData} {N ps : List Str} {k n : Nat} {body : SM} (F : Fun G.K x qual st f fd) (S : FnScope N ps (defScope st)) (hn : ps.length = n)
    (hbody : ∀ (cdv : Value) (A : Around) (outer : List Env) (s : Shared) (H : Hp) (E : XK), Room k (A.deeper (envOfC qual (defScope st) s.heap.objs.size f cdv)) →
      MSs G (cxOf (L2.CX P w) P w G.K mg base N qual (defScope st) f cdv A outer s H E) (fun cls d _ H => E cls d H) (defBody st) body) :
    FnOk P w G.K mg base (L2.CX P w) (k + 1) f fd ps (spM G n (fnM N.length body)) := by
  refine F.okX S (fun vs' H Q E q => ?_) fun cdv A outer s H vs' Q E hr q => ⟨_, hbody cdv A outer s H E hr, ?_⟩
  · obtain ⟨m, h, vs, _, r, l, _⟩ := q
    rw [r.length, l, hn]
  · obtain ⟨m, h, vs, hr, r, l, st⟩ := q
    refine ⟨m, _, h, ⟨hr, sr_start r N⟩, ?_⟩
    unfold fnM at st
    cases q : body (vs.map some ++ List.replicate (N.length - vs.length) none) h with
    | bad => rw [q] at st; exact st.elim
    | ex c fs h1 => rw [q] at st; exact st.elim
    | ok f h1 =>
      rw [q] at st
      cases f with
      | nx σ => exact fun m' H' g' r' σ' sr => st m' H' _ g' r' rfl
      | rt v => exact fun m' H' g' r' v' rv => st m' H' v' g' r' rv
      | bk σ => exact st.elim
      | ct σ => exact st.elim
      | xc σ c fs => exact fun m' H' g' r' σ' cls d sr x => st m' H' cls d g' r' x
theorem spM.imp {n : Nat} {g g' : DM} (h : ∀ vs h, g' vs h = g vs h) : spM G n g = spM G n g' := by
  have : g = g' := by funext vs h'; exact (h vs h').symm
  rw [this]
/-- the promise of a law's def, at the end -/
theorem law_end {H : Hp} {K : PySem.W.Frag} {a : Addr} {ns : List Int} {g : DM} (hG : G.K = K) (hO : Only H) (hS : SqL K H a (ns.map V.int)) (h : ∃ h', g [.scr ns] [] = .ok (.bl true) h') : spM G 1 g [.ref a] H (fun v _ => v = .bl true) (fun _ _ _ => False) := by
  have f : FrzL G.K H a (ns.map V.int) := by
    rw [hG]
    rcases hS with (e | ⟨o, e⟩) | e
    · rcases hO a with z | ⟨o, xs, z⟩
      · rw [e] at z; cases z
      · rw [e] at z; cases z
    · exact .inl ⟨o, e⟩
    · exact .inr e
  obtain ⟨h', e⟩ := h
  refine ⟨[], [], [.scr ns], ⟨rfl, fun i j p e => by simp at e, fun i o p e => by simp at e⟩, RVs.one ⟨a, rfl, f⟩, rfl, ?_⟩
  rw [e]
  exact fun m' H' v' _ _ r => r
theorem units_of {k : Nat} {A : Around} (hr : Room k A) : A.units + 65 < cLine := by
  have := hr.un
  omega
theorem units64 {k : Nat} {A : Around} (hr : Room k A) : A.units + 64 < cLine := by
  have := hr.un
  omega
end
end Mi
namespace Mi
open PySem PySem.Spec PyProof.Rows L2
/-! ### set(list of keys), its size -/
def dd1 (met : List Key) (k : Key) : List Key := if met.any (fun z => decide (z = k)) then met else met ++ [k]
def ddK (ks : List Key) : List Key := ks.foldl dd1 []
def ddN (val : Nat → Key) (i : Nat) : List Key := ddK ((List.range i).map val)
theorem ddN_succ (val : Nat → Key) (i : Nat) : ddN val (i + 1) = dd1 (ddN val i) (val i) := by
  unfold ddN ddK
  rw [List.range_succ, List.map_append, List.foldl_append]; rfl
theorem ddN_len (val : Nat → Key) : ∀ i, (ddN val i).length ≤ i
  | 0 => Nat.le_refl _
  | i + 1 => by
    have ih := ddN_len val i
    rw [ddN_succ]; unfold dd1
    split
    · omega
    · simp; omega
def inK (met : List Key) : Key → Bool := fun j => met.any fun z => decide (z = j)
theorem inK_dd1 (met : List Key) (k j : Key) : inK (dd1 met k) j = (inK met j || decide (j = k)) := by
  unfold dd1
  by_cases hm : met.any (fun z => decide (z = k)) = true
  · rw [if_pos hm]
    by_cases e : j = k
    · subst e
      rw [show inK met j = true from hm]; rfl
    · simp [e]
  · rw [if_neg hm]
    unfold inK
    rw [List.any_append]
    by_cases e : j = k
    · subst e; simp
    · have : ¬ k = j := fun z => e z.symm
      simp [e, this]
theorem len_dd1 (met : List Key) (k : Key) : (dd1 met k).length = if inK met k = true then met.length else met.length + 1 := by
  unfold dd1 inK
  split <;> simp
section
variable {prog : Program} {w : World} {A : Around} {R : Result → Shared → Prop} {IT : Addr} {fp wr : List Addr} {GG : Array GenState → Array GenState → Prop} {n : Nat} {PP : Nat → Value → Prop} {Stt : Nat → Shared → Prop}
theorem loopK (WW : WalksS prog w A.in1 IT fp wr GG n PP Stt) (S : Addr) (nS : S ∉ fp) (val : Nat → Key) (isV : ∀ i v, PP i v → keyIs (val i) v = true) (room : n + 1 < scanBound) :
    ∀ (left i : Nat) (s : Shared), n - i = left → i ≤ n → Stt i s → s.heap.SetOf (mixKind prog w) S (inK (ddN val i)) (ddN val i).length →
      (∀ s', Moved (S :: wr) GG s s' → s'.heap.SetOf (mixKind prog w) S (inK (ddN val n)) (ddN val n).length → R (.ok (.ret .none)) s') →
      codeAny (model prog w) A (.builtin "set.update.loop" ⟨[.ref S, .ref IT], []⟩) R s := by
  have nSw : S ∉ wr := fun z => nS (WW.sub _ z)
  have more : ∀ b ∈ wr, b ∈ S :: wr := fun b z => List.mem_cons_of_mem _ z
  intro left
  induction left with
  | zero =>
    intro i s el hi st hS fin
    have : i = n := by omega
    subst this
    refine codeAny_builtin PyProof.Rows.F.entry_set_update_loop ?_
    rw [Around.under_plainId PyProof.Rows.F.plain_set_update_loop _]
    show wpAny _ A.in1 (pyNext (.ref IT) >>= _) _ _ s
    refine wpAny_bind (WW.done s _ _ st fun s' mv => ?_)
    show wpAny _ A.in1 (ret Value.none) _ _ s'
    refine wpAny_pure (fin s' (mv.mono more) ?_)
    obtain ⟨o, es, ep, t, ho, rest⟩ := hS
    exact ⟨o, es, ep, t, mv.heap S _ nSw ho, rest⟩
  | succ left ih =>
    intro i s el hi st hS fin
    have lt : i < n := by omega
    refine codeAny_builtin PyProof.Rows.F.entry_set_update_loop ?_
    rw [Around.under_plainId PyProof.Rows.F.plain_set_update_loop _]
    show wpAny _ A.in1 (pyNext (.ref IT) >>= _) _ _ s
    refine wpAny_bind (WW.item i s _ _ lt st fun v s' hP st' mv => ?_)
    have kv := isV i v hP
    have hS' : s'.heap.SetOf (mixKind prog w) S (inK (ddN val i)) (ddN val i).length := by
      obtain ⟨o, es, ep, tb, ho, rest⟩ := hS
      exact ⟨o, es, ep, tb, mv.heap S _ nSw ho, rest⟩
    show wpAny _ A.in1 (holding [v] (setAdd S v) >>= _) _ _ s'
    refine wpAny_bind (wpAny_holding ?_)
    unfold setAdd
    refine wpAny_holding ?_
    refine wpAny_bind ((mixKind prog w).pyHash (k := val i) kv ?_)
    have small : (ddN val i).length + 1 < scanBound := by have := ddN_len val i; omega
    have scn : v.scannable = true := by
      rcases keyIs_shape kv with ⟨_, _, _, rfl⟩ | ⟨_, _, _, rfl⟩ <;> rfl
    refine wpAny_setAddHashed_of (knd := mixKind prog w) (s := { s' with toks := s'.toks + 1 }) kv scn hS' small fun h' sb hS2 => ?_
    have hSi : h'.SetOf (mixKind prog w) S (inK (ddN val (i + 1))) (ddN val (i + 1)).length := by
      have q1 : inK (ddN val (i + 1)) = fun j => inK (ddN val i) j || decide (j = val i) := by
        funext j; rw [ddN_succ, inK_dd1]
      rw [q1, ddN_succ, len_dd1]
      exact hS2
    refine wpAny_pure ⟨plainId_quiet PyProof.Rows.F.plain_set_update_loop _, ih (i + 1) _ (by omega) lt (WW.frame _ s' _ _ st' (Nat.le_succ _) fun b hb o e => ?_) hSi fun s'' mv' hS'' => ?_⟩
    · have nb : b ≠ S := fun z => nS (z ▸ hb)
      rw [sb.2 b nb]; exact e
    · refine fin s'' (Moved.trans WW.gtrans ((mv.mono more).then_heap (Nat.le_succ _) fun b o hb e => ?_) mv') hS''
      have nb : b ≠ S := fun z => hb (z ▸ List.mem_cons_self)
      rw [sb.2 b nb]; exact e
end
section
variable {prog : Program} {w : World} {A : Around} {E : Value → Shared → Prop} {s : Shared}
set_option maxHeartbeats 3200000 in
theorem call_setK {l : Addr} {items : Array Value} {val : Nat → Key} {Q : Value → Shared → Prop} (hh : A.handled = none) (hl : s.heap.IsList l items) (isV : ∀ i v, items[i]? = some v → keyIs (val i) v = true) (hb : items.size + 1 < scanBound)
    (fin : ∀ (h' : Heap) (tk : Nat), h'.SetOf (mixKind prog w) s.heap.objs.size (inK (ddN val items.size)) (ddN val items.size).length →
      (∀ b o, b < s.heap.objs.size → s.heap.get? b = some o → h'.get? b = some o) → Q (.ref s.heap.objs.size) { s with heap := h', toks := tk }) :
    wpAny (model prog w) A (call (.type "set") [.ref l]) Q E s := by
  have cs := PySem.F.called_set
  obtain ⟨c, tl, hmro⟩ := cs.mro
  have q1 := cs.made
  have q2 := cs.sub
  refine wpAny_call (codeAny_of_tree ?_)
  show wpAny _ _ (callAny (.type "set") _) _ _ _
  refine wpAny_pure ⟨Code.quiet_builtin _ (by decide +kernel), codeAny_builtin PySem.F.entry_type_call ?_⟩
  rw [Around.under_plain (weight_type_call_type "set" [.ref l] []) rfl]
  have q3 := cs.notType
  have q4 := cs.canCreate
  have q5 := PySem.F.typeCall_set_1 (.ref l)
  repeat (any_goals (first | assumption | wp_step))
  let neu : Bool → Obj := fun led => { cls := .type "set", dict := none, data := .set #[] 0 (.fresh 0 0 led) }
  refine codeAny_mono (code_set_new_1 (.ref l) (E := E) (Q₁ := fun obj s₁ => ∃ led : Bool, obj = .ref s.heap.objs.size ∧ s₁ = { s with heap := s.heap.push (neu led) }) fun led => ⟨led, rfl, rfl⟩) fun r s1 hr => ?_
  cases r with
  | error e => exact hr
  | ok fl =>
    cases fl with
    | ret obj =>
      obtain ⟨led, rfl, rfl⟩ := hr
      have gS : (s.heap.push (neu led)).get? s.heap.objs.size = some (neu led) := Heap.get?_push_size _ rfl
      have tS : Shared.TypeIs { s with heap := s.heap.push (neu led) } (.ref s.heap.objs.size) "set" := ⟨_, gS, rfl⟩
      have q6 := cs.init.lookup
      have q7 := cs.init.bind (.ref s.heap.objs.size)
      repeat (any_goals (first | assumption | wp_step))
      refine codeAny_mono (codeAny_call_builtin (R := wants (fun r s₂ => r = .none ∧ ∃ h' tk, s₂ = { s with heap := h', toks := tk } ∧ h'.SetOf (mixKind prog w) s.heap.objs.size (inK (ddN val items.size)) (ddN val items.size).length ∧
          (∀ b o, b < s.heap.objs.size → s.heap.get? b = some o → h'.get? b = some o)) E) cs.init.plain PySem.F.entry_set_init (check_set_init_1 tS ?_)) fun r2 s2 hr2 => ?_
      · obtain ⟨⟨lc, ld, lt, lsl⟩, g0, k0, nl, k1⟩ := hl
        simp only at k0 k1
        subst k0; subst k1
        have g1 : (s.heap.push (neu led)).get? l = some { cls := .type "list", dict := ld, data := .seq items nl, slots := lsl } := Heap.get?_push_of_some _ g0
        have q8 := PySem.F.sub_list_set
        have q9 := PySem.F.sub_list_frozenset
        have q10 : (Value.type "list" == Value.type "dict") = false := by decide
        have hl1 : (s.heap.push (neu led)).IsList l items := ⟨_, g1, rfl, nl, rfl⟩
        unfold Builtin.«set.__init__» noKeywords Builtin.Frozenset.updateFrom
        generalize hPI : pyIter = PI
        wp_walk
        subst hPI
        refine wpAny_pyIter_list hl1 ?_
        refine wpAny_bind (wpAny_runValue ?_)
        have lS : l < s.heap.objs.size := Heap.lt_size g0
        have h3 : A.in1.in1.in1.handled = none := by simp [hh]
        have szp : (s.heap.push (neu led)).objs.size = s.heap.objs.size + 1 := Heap.size_push ..
        have ne1 : l ≠ (s.heap.push (neu led)).objs.size := by rw [szp]; exact Nat.ne_of_lt (Nat.lt_succ_of_lt lS)
        have nS : s.heap.objs.size ∉ [(s.heap.push (neu led)).objs.size, l] := by
          rw [szp]
          simp only [List.mem_cons, List.mem_singleton, List.not_mem_nil, or_false, not_or]
          exact ⟨Nat.ne_of_lt (Nat.lt_succ_self _), Nat.ne_of_gt lS⟩
        refine loopK ((Walks.list h3 _ l ne1 items).toS) s.heap.objs.size nS val isV hb (items.size - 0) 0 _ (by omega) (Nat.zero_le _) ⟨⟨_, Heap.get?_push_size _ rfl, rfl, rfl⟩, (hl1.push _)⟩ ?hS0 ?hR
        case hS0 =>
          have g2 : ((s.heap.push (neu led)).push { cls := .type "list_iterator", data := .fields #[.ref l, .int 0 0] }).get? s.heap.objs.size = some (neu led) := Heap.get?_push_of_some _ gS
          exact ⟨_, #[], 0, _, g2, ⟨rfl, rfl, rfl⟩, rfl, (fun e he => by simp at he), (fun k => by simp [ddN, ddK, inK]), (by decide), (by rfl), rfl⟩
        case hR =>
          intro s' mv hS'
          obtain ⟨h', g', d', tk', os'⟩ := s'
          have e1 : g' = s.gens := mv.gens
          have e2 : d' = s.drawn := mv.drawn
          have e3 : os' = s.os := mv.os
          subst e1; subst e2; subst e3
          show wpAny _ _ _ _ _ _
          refine wpAny_pure ?_
          show wpAny _ _ (ret Value.none) _ _ _
          refine wpAny_pure ⟨rfl, h', tk', rfl, hS', fun b o lb e => ?_⟩
          refine mv.heap b o ?_ (Heap.get?_push_of_some _ (Heap.get?_push_of_some _ e))
          rw [szp]
          simp only [List.mem_cons, List.mem_singleton, List.not_mem_nil, or_false, not_or]
          exact ⟨Nat.ne_of_lt lb, Nat.ne_of_lt (Nat.lt_succ_of_lt lb)⟩
      · cases r2 with
        | error e => exact hr2
        | ok fl2 =>
          cases fl2 with
          | ret r =>
            obtain ⟨rfl, h', tk, rfl, hS', kept⟩ := hr2
            repeat (any_goals (first | assumption | wp_step))
            exact fin _ _ hS' kept
          | _ => exact hr2.elim
    | _ => exact hr.elim
end
/-- the number of different keys of a list -/
def keysP : List Pv → Option (List Key)
  | [] => some []
  | x :: xs => match keyP x, keysP xs with
    | some k, some ks => some (k :: ks)
    | _, _ => none
def lenSetO : UM := fun x h => match lstOf h x with
  | some (_, xs) => match keysP xs with
    | some ks => if ks.length < 4000 then some (.int (ddK ks).length, h) else none
    | none => none
  | none => none
theorem keys_rel {G : Gm} {H : Hp} {m : List Addr} : ∀ {xs : List Pv} {ys : List V} {ks : List Key}, RVs G H m xs ys → keysP xs = some ks → ys = ks.map kV
  | [], ys, ks, r, e => by
    cases (Option.some.inj e)
    exact r
  | x :: xs, _, ks, ⟨y, zs, e1, r, rs⟩, e => by
    unfold keysP at e
    split at e
    · rename_i k ks' h1 h2
      cases (Option.some.inj e)
      subst e1
      rw [keys_rel rs h2, key_rel r h1]; rfl
    · cases e
theorem keys_at : ∀ {ks : List Key} {us : List Value}, Vals (ks.map kV) us → ∀ (i : Nat) (v : Value), us[i]? = some v → keyIs (ks.getD i (.inl 0)) v = true
  | [], _, .nil, i, v, e => by simp at e
  | k :: ks, _, .cons r t, 0, v, e => by
    simp at e; subst e
    cases k with
    | inl a => obtain ⟨t, rfl⟩ := r; exact keyIs_int a t
    | inr a => obtain ⟨t, rfl⟩ := r; exact keyIs_str a t
  | k :: ks, _, .cons r t, i + 1, v, e => by
    have := keys_at t i v (by simpa using e)
    simpa using this
theorem ddN_all (ks : List Key) : ddN (fun i => ks.getD i (.inl 0)) ks.length = ddK ks := by
  unfold ddN
  congr 1
  apply List.ext_getElem?
  intro i
  rw [List.getElem?_map]
  by_cases hi : i < ks.length
  · rw [List.getElem?_range hi, List.getElem?_eq_getElem hi]
    simp [hi]
  · rw [List.getElem?_eq_none (by simpa using hi), List.getElem?_eq_none (by simpa using hi)]; rfl
section
variable {G : Gm} {X : Cx} {W : WX'} {pos p p2 q : Pos} {e : Expr} {ce : EM}
theorem me_lenSet (hK : X.K = G.K) (hc : X.calm = true) (hg : Gl X "len") (hm : X.mg "len" = none) (hg2 : Gl X "set") (hm2 : X.mg "set" = none) (ha : ME G X W e ce)
    (na : starEach [e] X.env = (false, eval e X.env) :: starEach [] X.env := by rfl) : ME G X W (.Call (.Name "len" p) [.Call (.Name "set" p2) [e] [] q] [] pos) (e1 lenSetO ce) := ⟨fun pins s σ' H Q I qq => by
  obtain ⟨m, σ, h, r, st⟩ := qq
  have q' := one_in r st
  refine Call_ (ld_blt I hg hm boot_len ?_)
  refine PyProof.Rows.callWith_builtin1 (PyProof.Rows.args_cons ?_ rfl) rfl rfl
  refine Call_ (ld_blt I hg2 hm2 boot_set ?_)
  refine PyProof.Rows.callWith_type1 (PyProof.Rows.args_cons (thn (ha.run pins s σ' H _ I q') fun v s1 ⟨x, H1, I1, r1, q1⟩ => PyProof.Rows.args_nil ?_) na) na rfl
  obtain ⟨m1, h1, y, hr, ry, w⟩ := q1
  unfold lenSetO at w
  split at w
  · rename_i a xs e1
    split at w
    · rename_i ks ek
      split at w
      · rename_i hl
        obtain ⟨pa, ps, ea, hma, ex, hp, rs⟩ := lstOf_rel hr ry e1
        subst ex
        cases (show v = Value.ref pa from r1)
        have := keys_rel rs ek
        subst this
        obtain ⟨its, vv, pl, hz⟩ := I1.list (X := X) (.inl (.inl hp))
        have hlen : its.toArray.size = ks.length := by rw [List.size_toArray, ← vv.length, List.length_map]
        refine call_setK (val := fun i => ks.getD i (.inl 0)) (I1.ok.hd hc) pl.isList (fun i v hv => keys_at vv i v (by simpa using hv)) (by rw [hlen]; unfold scanBound; omega) fun h' tk hS kept => ?_
        refine PyProof.Rows.args_nil ?_
        rw [hlen, ddN_all] at hS
        obtain ⟨o, es, ep, t, ho, hex, hd, _, _, _, hf, hn⟩ := hS
        have I2 : Inv X pins σ' H1 { s1 with heap := h', toks := tk } := I1.kept fun b o e => kept b o (Heap.lt_size e) e
        have small : (ddK ks).length ≤ ks.length := by
          have := ddN_len (fun i => ks.getD i (.inl 0)) ks.length
          rw [ddN_all] at this; exact this
        exact call_len_set ho hex hd hf (by rw [hn] <;> omega) ⟨.int (ddK ks).length, H1, I2.tok _, ⟨_, by rw [hn]⟩, wnt_same hr w rfl⟩
      · exact w.elim
    · exact w.elim
  · exact w.elim⟩
end
end Mi
namespace Mi
open PySem PySem.Spec PyProof.Rows L2
def revO : UM := fun x h => match lstOf h x with
  | some (_, xs) => some (.ref h.length, h ++ [.lst xs.reverse])
  | none => none
section
variable {G : Gm} {X : Cx} {W : WX'} {pos p1 p2 p3 : Pos} {e : Expr} {ce : EM}
theorem me_rev {k : Nat} (hK : X.K = G.K) (he : ME G X W e ce) : ME G X W (.Subscript e (.Slice none none (some (.UnaryOp .USub (.Constant (.int 1) k p1) p2)) p3) pos) (e1 revO ce) :=
  PE.weak (pe_revL he) fun σ' H Q q => by
    obtain ⟨m, σ, h, r, s⟩ := q
    have q' := one_in r s
    obtain ⟨m, σ, h, r, s⟩ := q'
    refine tE.of r s (fun _ _ _ e => e) fun x h1 m1 H1 x' s1 g1 r1 rx => ?_
    obtain ⟨m2, h2, y, hr, ry, w⟩ := s1 m1 H1 x' g1 r1.hr rx
    unfold revO at w
    split at w
    · rename_i a xs e1
      obtain ⟨p, ps, ea, ha, ex, hp, rs⟩ := lstOf_rel hr ry e1
      exact ⟨p, ps, ex, .inl (.inl hp), fun q nq => wnt_lst hr w rs.reverse nq⟩
    · exact w.elim
theorem fn_bad {P : Program} {w : World} {mg : Str → Option Value} {base : Heap} {x qual : Str} {st : Stmt} {f : Addr} {fd : FuncData} {ps : List Str} {k n : Nat} (F : Fun G.K x qual st f fd) (hn : ps.length = n) :
    FnOk P w G.K mg base (L2.CX P w) k f fd ps (spM G n fun _ _ => .bad) := ⟨fun vs' H Q E q => by
    obtain ⟨m, h, vs, _, r, l, _⟩ := q
    rw [r.length, l, hn], fun A outer s H args us vs Q E _ _ _ _ q => by
    obtain ⟨m, h, vs, _, r, l, z⟩ := q
    exact z.elim⟩
end
end Mi
namespace Mi
open PySem PySem.Spec PyProof.Rows L2
/-! ### repr of data -/
def pdL (f : Pv → Option PyData) : List Pv → Option (List PyData)
  | [] => some []
  | x :: xs => match f x, pdL f xs with
    | some d, some ds => some (d :: ds)
    | _, _ => none
def pd : Nat → Hh → Pv → Option PyData
  | 0, _, _ => none
  | n + 1, h, x => match x with
    | .non => some .none
    | .bl b => some (.bool b)
    | .int i => if i.natAbs.log2 < 1920 then some (.int i) else none
    | .str z => some (.str z)
    | .tup xs => (pdL (pd n h) xs).map .tuple
    | .ref a => match lstAt h a with
      | some xs => (pdL (pd n h) xs).map .list
      | none => none
    | _ => none
def reprO : LM := fun xs h => match xs with
  | [.tup ys] => match pd 40 h (.tup ys) with
    | some d => if d.shown.length ≤ sizeLine then some (.str d.shown, h) else none
    | none => none
  | [.ref a] => match pd 40 h (.ref a) with
    | some d => if d.shown.length ≤ sizeLine then some (.str d.shown, h) else none
    | none => none
  | _ => none
section
variable {G : Gm} {X : Cx} {pins : List (Addr × Obj)} {σ' : L2.St} {H : Hp} {m : List Addr} {h : Hh} {s : Shared}
def Fine (n : Nat) (d : PyData) : Prop := d.showable = true ∧ d.hasDict = false ∧ d.depth ≤ n
theorem pdL_reads {f : Pv → Option PyData} {n : Nat} (hf : ∀ x x' u d, RV G H m x x' → RelV x' u → f x = some d → ∃ as, Reads s.heap u d as ∧ Fine n d) :
    ∀ (xs : List Pv) (xs' : List V) (us : List Value) (ds : List PyData), RVs G H m xs xs' → Vals xs' us → pdL f xs = some ds → ∃ as, ReadsAll s.heap us ds as ∧ PyData.showableAll ds = true ∧ PyData.hasDictAll ds = false ∧ PyData.depthAll ds ≤ n
  | [], xs', us, ds, r, rv, e => by
    have e1 : xs' = [] := r
    subst e1
    cases rv
    cases e
    exact ⟨[], .nil, rfl, rfl, Nat.zero_le _⟩
  | x :: xs, xs', us, ds, ⟨y, zs, e1, r1, rs⟩, rv, e => by
    subst e1
    cases rv with
    | cons ru rus =>
      rename_i u us'
      cases q1 : f x with
      | none => simp [pdL, q1] at e
      | some d =>
        cases q2 : pdL f xs with
        | none => simp [pdL, q1, q2] at e
        | some ds' =>
          simp [pdL, q1, q2] at e
          subst e
          obtain ⟨as, r, f1, f2, f3⟩ := hf x y u d r1 ru q1
          obtain ⟨bs, r', g1, g2, g3⟩ := pdL_reads hf xs zs us' ds' rs rus q2
          refine ⟨as ++ bs, .cons r r', ?_, ?_, ?_⟩
          · simp only [PyData.showableAll, f1, g1, Bool.and_self]
          · simp only [PyData.hasDictAll, f2, g2, Bool.or_self]
          · simp only [PyData.depthAll]
            omega
theorem pd_reads (I : Inv X pins σ' H s) (hK : X.K = G.K) (hr : HR G H m h) : ∀ (n : Nat) (x : Pv) (x' : V) (u : Value) (d : PyData), RV G H m x x' → RelV x' u → pd n h x = some d → ∃ as, Reads s.heap u d as ∧ Fine n d
  | 0, _, _, _, _, _, _, e => by cases e
  | n + 1, x, x', u, d, r, ru, e => by
    cases x with
    | non =>
      cases e
      cases (show x' = _ from r)
      cases (show u = _ from ru)
      exact ⟨_, .none, rfl, rfl, Nat.zero_le _⟩
    | bl b =>
      cases e
      cases (show x' = _ from r)
      cases (show u = _ from ru)
      exact ⟨_, .bool b, rfl, rfl, Nat.zero_le _⟩
    | int i =>
      simp only [pd] at e
      split at e
      · rename_i hi
        cases e
        cases (show x' = _ from r)
        obtain ⟨t, rfl⟩ := ru
        exact ⟨_, .int i t, decide_eq_true hi, rfl, Nat.zero_le _⟩
      · cases e
    | str z =>
      cases e
      cases (show x' = _ from r)
      obtain ⟨t, rfl⟩ := ru
      exact ⟨_, .str z t, rfl, rfl, Nat.zero_le _⟩
    | tup xs =>
      simp only [pd] at e
      obtain ⟨p, ys, rfl, tl, rs⟩ := r
      cases (show u = _ from ru)
      cases q : pdL (pd n h) xs with
      | none => rw [q] at e; cases e
      | some ds =>
        rw [q] at e
        cases e
        obtain ⟨its, rv, ⟨o, e1, e2, k, e3⟩, _⟩ := I.tuple (hK ▸ tl.sq)
        obtain ⟨as, ra, f1, f2, f3⟩ := pdL_reads (s := s) (pd_reads I hK hr n) xs ys its ds rs rv q
        exact ⟨as, .tuple e1 e2 e3 (by simpa using ra), f1, f2, by simp only [PyData.depth]; omega⟩
    | ref a =>
      simp only [pd] at e
      obtain ⟨p, rfl, hm⟩ := r
      cases (show u = _ from ru)
      split at e
      · rename_i xs hx
        cases q : pdL (pd n h) xs with
        | none => rw [q] at e; cases e
        | some ds =>
          rw [q] at e
          cases e
          obtain ⟨p', ps, ea, ha, ex, hp, rs⟩ := lstOf_rel (x := .ref a) hr ⟨p, rfl, hm⟩ (xs := xs) (a := a) (by
            unfold lstAt at hx
            split at hx
            · rename_i zs hz
              cases hx
              simp only [lstOf]
              rw [hz]
            · cases hx)
          cases ex
          obtain ⟨its, rv, ⟨o, k, e1, e2, e3, e4⟩, _⟩ := I.list (xs := ps) (a := p) (.inl (.inl hp))
          obtain ⟨as, ra, f1, f2, f3⟩ := pdL_reads (s := s) (pd_reads I hK hr n) xs ps its ds rs rv q
          exact ⟨p :: as, .list e1 e2 e4 (by simpa using ra), f1, f2, by simp only [PyData.depth]; omega⟩
      · cases e
    | ty t => cases e
    | scr ns => cases e
end
section
variable {G : Gm} {X : Cx}
theorem cr_reprO (hK : X.K = G.K) (hu : X.A.units + 64 < cLine) (hg : X.A.guards = some []) : CallR X (.builtin "repr") (rL G reprO) := by
  intro pins s σ' H xs' us Q I ru q
  obtain ⟨m, h, xs, hr, rx, w⟩ := q
  have go : ∀ (x : Pv) (x' : V) (p : Addr), xs' = [x'] → x' = .ref p → RV G H m x x' → (match pd 40 h x with | some d => if d.shown.length ≤ sizeLine then some (Pv.str d.shown, h) else none | none => none) = reprO xs h → wpAny (model X.prog X.w) X.A (call (.builtin "repr") us) (EP X pins σ' Q) X.xe s := by
    intro x x' p e1 e2 r e3
    subst e1 e2
    cases ru with
    | cons ru rn =>
      rename_i u us
      cases rn
      cases (show u = _ from ru)
      rw [← e3] at w
      cases q : pd 40 h x with
      | none => rw [q] at w; exact w.elim
      | some d =>
        rw [q] at w
        by_cases hz : d.shown.length ≤ sizeLine
        · obtain ⟨as, rd, f1, f2, f3⟩ := pd_reads I hK hr 40 x _ _ d r rfl q
          refine repr_of_reads' rd f1 (PyData.noDict_hsm f2) hg (by omega) (fun _ _ e => e) (fun h' u tk hk => ?_) hz
          simp only [if_pos hz] at w
          exact ⟨.str d.shown, H, I.kept hk, ⟨_, rfl⟩, w m H _ Gr.refl hr rfl⟩
        · simp only [if_neg hz] at w
          exact w.elim
  unfold reprO at w
  split at w
  · obtain ⟨y, rfl, r1⟩ := rx.of1
    obtain ⟨p, ys, e, z⟩ := r1
    exact go (.tup _) _ p rfl e ⟨p, ys, e, z⟩ rfl
  · obtain ⟨y, rfl, r1⟩ := rx.of1
    obtain ⟨p, e, z⟩ := r1
    exact go (.ref _) _ p rfl e ⟨p, e, z⟩ rfl
  · exact w.elim
end
end Mi
namespace Mi
open PySem PySem.Spec PyProof.Rows L2
section
variable {G : Gm} {P : Program} {w : World} {mg : Str → Option Value} {base : Heap} {x qual : Str} {st : Stmt} {f : Addr} {fd : FuncData} {N ps : List Str} {k n : Nat}
/-- a def with defaults -/
theorem fn_okD {dvs : List V} {kws : List (Str × V)} {body : SM} (F : FunD G.K x qual (defArgs st) (defBody st) (defScope st) dvs kws f fd) (S : FnScope N ps (defScope st)) (hn : ps.length = n)
    (hbody : ∀ (cdv : Value) (A : Around) (outer : List Env) (s : Shared) (H : Hp) (E : XK), Room k (A.deeper (envOfC qual (defScope st) s.heap.objs.size f cdv)) →
      MSs G (cxOf (L2.CX P w) P w G.K mg base N qual (defScope st) f cdv A outer s H E) (fun cls d _ H => E cls d H) (defBody st) body) :
    FnOk P w G.K mg base (L2.CX P w) (k + 1) f fd ps (spM G n (fnM N.length body)) := by
  refine F.ok S (fun vs' H Q E q => ?_) fun cdv A outer s H vs' Q E hr q => ⟨_, hbody cdv A outer s H E hr, ?_⟩
  · obtain ⟨m, h, vs, _, r, l, _⟩ := q
    rw [r.length, l, hn]
  · obtain ⟨m, h, vs, hr, r, l, st⟩ := q
    refine ⟨m, _, h, ⟨hr, sr_start r N⟩, ?_⟩
    unfold fnM at st
    cases q : body (vs.map some ++ List.replicate (N.length - vs.length) none) h with
    | bad => rw [q] at st; exact st.elim
    | ex c fs h1 => rw [q] at st; exact st.elim
    | ok f h1 =>
      rw [q] at st
      cases f with
      | nx σ => exact fun m' H' g' r' σ' sr => st m' H' _ g' r' rfl
      | rt v => exact fun m' H' g' r' v' rv => st m' H' v' g' r' rv
      | bk σ => exact st.elim
      | ct σ => exact st.elim
      | xc σ c fs => exact fun m' H' g' r' σ' cls d sr x => st m' H' cls d g' r' x
/-- what a call from the very top does: no guard stands there -/
def TopOk (P : Program) (w : World) (K : PySem.W.Frag) (mg : Str → Option Value) (base : Heap) (f : Addr) (fd : FuncData) (ps : List Str) (sp : Sp) : Prop :=
  ∀ (s : Shared) (H : Hp) (args : Args) (us : List Value) (vs : List V) (Q : VK) (E : XK), Env0 P w K mg base callerA [] s H → BindsTo s fd args (ps.zip us) → Vals vs us → sp vs H Q E →
    codeAny (model P w) callerA (.call (.ref f) args) (CR (L2.CX P w) [] P w H s Q E) s
theorem top_ok {dvs : List V} {kws : List (Str × V)} {body : SM} (F : FunD G.K x qual (defArgs st) (defBody st) (defScope st) dvs kws f fd) (S : FnScope N ps (defScope st)) (hn : ps.length = n) (room : Room (k + 1) callerA)
    (hbody : ∀ (cdv : Value) (s : Shared) (H : Hp) (E : XK), Room k (callerA.deeper (envOfC qual (defScope st) s.heap.objs.size f cdv)) →
      MSs G (cxOf (L2.CX P w) P w G.K mg base N qual (defScope st) f cdv callerA [] s H E) (fun cls d _ H => E cls d H) (defBody st) body) :
    TopOk P w G.K mg base f fd ps (spM G n (fnM N.length body)) := by
  intro s H args us vs' Q E env0 hb rv hsp
  obtain ⟨m, h, vs, hr, r, l, sat⟩ := hsp
  have hlen : vs'.length = ps.length := by rw [r.length, l, hn]
  obtain ⟨oc, od, dV, kV, doc, pm, an, cdv, ct, osl, rfl, lk, hcd, _, _⟩ := F.ex
  have kin := env0.mod.kin.keeps fun b o e => (env0.bs b o e).1
  have lim := env0.mod.nolimit.keeps fun b o e => (env0.bs b o e).1
  refine codeAny_call_function room.depth (kin _ _ lk) rfl S.co S.gen rfl (PySem.W.codeRec_of kin hcd) (hb _ _ _ _ (wpAny_newFunctionEnv_cells S.kind (fun y hy => ?_) fun env he s1 x1 => ?_))
  · rcases S.par y.1 (List.of_mem_zip (show (y.1, y.2) ∈ _ from hy)).1 with z | z
    · exact .inl z
    · exact .inr ⟨z, PySem.W.cellsFrom_some _ _ _ (.inl z)⟩
  · subst he
    refine ⟨lim.keeps x1.toInCall.keep, codeAny_func ?_⟩
    have inv := inv_start (CX := L2.CX P w) (E := E) S room.hd env0 hlen rv x1
    refine wpAny_mono ((hbody cdv s H E (room.deeper _)).run [] s1 (start N vs') H { nx := fun _ H' => Q .non H', rt := Q } inv ?_) (fun fl s' z => ?_) fun e s' z => z
    · refine ⟨m, _, h, ⟨hr, sr_start r N⟩, ?_⟩
      unfold fnM at sat
      cases q : body (vs.map some ++ List.replicate (N.length - vs.length) none) h with
      | bad => rw [q] at sat; exact sat.elim
      | ex c fs h1 => rw [q] at sat; exact sat.elim
      | ok fl h1 =>
        rw [q] at sat
        cases fl with
        | nx σ => exact fun m' H' g' r' σ' sr => sat m' H' _ g' r' rfl
        | rt v => exact fun m' H' g' r' v' rv => sat m' H' v' g' r' rv
        | bk σ => exact sat.elim
        | ct σ => exact sat.elim
        | xc σ c fs => exact fun m' H' g' r' σ' cls d sr x => sat m' H' cls d g' r' x
    · cases fl with
      | next =>
        obtain ⟨σ1, H1, J, q⟩ := z
        exact ⟨.non, H1, J.os, J.bare, J.base, J.hok, rfl, q⟩
      | ret u =>
        obtain ⟨v, σ1, H1, J, ru, q⟩ := z
        exact ⟨v, H1, J.os, J.bare, J.base, J.hok, ru, q⟩
      | brk => exact (let ⟨_, _, _, q⟩ := z; q.elim)
      | cont => exact (let ⟨_, _, _, q⟩ := z; q.elim)
end
/-! ### the law's call -/
section
variable {P : Program} {w : World} {K : PySem.W.Frag} {mg mb : Str → Option Value} {a fa : Addr} {s : Shared} {us : List Value} {ns : List Int} {fd : FuncData} {x : Str} {sp : Sp}
/-- the heap in front of the law, seen from H: H tracks the script's list or nothing -/
theorem env_top (kin : K.In s.heap) (gl : s.heap.Ns mainGlobals mg) (bl : s.heap.Ns builtinsNs mb) (boot : ∀ x : Str, x ≠ "__name__" → mb x = bootBuiltins x) (lim : s.heap.NoLimit) (ng : s.gens = #[])
    (ha : s.heap.get? a = some { cls := .type "list", data := .seq us.toArray }) {H : Hp} (hok : HOk P w H s.heap) (only : ∀ b, b ≠ a → H b = none) (out : H a ≠ none → K.lookup a = none) :
    K.In (hidT s.heap H) ∧ (hidT s.heap H).Ns mainGlobals mg ∧ Env0 P w K mg (hidT s.heap H) callerA [] s H := by
  have ns : ∀ {b : Addr} {g : Str → Option Value}, s.heap.Ns b g → (hidT s.heap H).Ns b g := by
    rintro b g ⟨o, es, ep, e1, e2, e3⟩
    refine ⟨o, es, ep, hidT_get e1 (only b fun z => ?_), e2, e3⟩
    subst z
    rw [ha] at e1
    cases e1
    cases e2
  have kin' : K.In (hidT s.heap H) := by
    intro b o e
    refine hidT_get (kin b o e) ?_
    by_cases z : b = a
    · subst z
      cases q : H b with
      | none => rfl
      | some y =>
        have := out (by rw [q]; exact Option.some_ne_none y)
        rw [this] at e
        cases e
    · exact only b z
  obtain ⟨mc, l1, l2⟩ := lim
  refine ⟨kin', ns gl, ?_⟩
  constructor
  · rfl
  · exact ⟨kin', ns gl, ⟨mb, ns bl, boot⟩, ⟨mc, ns l1, l2⟩⟩
  · exact fun b o e => of_hidT e
  · rw [hidT_size]
    exact Nat.le_refl _
  · trivial
  · intro b hb
    cases hb
  · exact hok
  · exact .of_eq ng
theorem call_top (kin : K.In s.heap) (gl : s.heap.Ns mainGlobals mg) (bl : s.heap.Ns builtinsNs mb) (boot : ∀ x : Str, x ≠ "__name__" → mb x = bootBuiltins x) (lim : s.heap.NoLimit) (ng : s.gens = #[])
    (ha : s.heap.get? a = some { cls := .type "list", data := .seq us.toArray }) (hin : IntsAre us ns) (small : ns.length ≤ sizeLine)
    (F : ∀ base : Heap, K.In base → base.Ns mainGlobals mg → TopOk P w K mg base fa fd [x] sp) (hb : ∀ (s : Shared) (u : Value), BindsTo s fd ⟨[u], []⟩ [(x, u)])
    (promise : ∀ H : Hp, Only H → SqL K H a (ns.map V.int) → sp [.ref a] H (fun v _ => v = .bl true) fun _ _ _ => False) :
    codeAny (model P w) callerA (.call (.ref fa) ⟨[.ref a], []⟩) (fun r s' => r = .ok (.ret (.bool true)) ∧ OldK s.heap s'.heap ∧ s'.os = s.os ∧ AllBare s'.gens) s := by
  have pv : Vals (ns.map V.int) us := vals_ints hin
  have step : ∃ H : Hp, HOk P w H s.heap ∧ (∀ b, b ≠ a → H b = none) ∧ (H a ≠ none → K.lookup a = none) ∧ Only H ∧ SqL K H a (ns.map V.int) := by
    cases look : K.lookup a with
    | some o =>
      have e := kin a o look
      rw [ha] at e
      cases e
      refine ⟨fun _ => none, (fun b u z => by cases (show (none : Option HO) = some u from z)), fun _ _ => rfl, fun z => absurd rfl z, fun _ => .inl rfl, .inr ⟨_, us.toArray, _, look, rfl, rfl, rfl, ?_, by simpa using pv⟩⟩
      rw [List.size_toArray, hin.length]
      exact small
    | none =>
      let o : Obj := { cls := .type "list", data := .seq us.toArray }
      refine ⟨upd (fun _ => none) a (.frz o (.lst (ns.map V.int))), fun b y z => ?_, fun b z => by rw [upd_ne z], fun _ => rfl, fun b => ?_, .inl (.inr ⟨o, upd_same⟩)⟩
      · by_cases q : b = a
        · subst q
          rw [upd_same] at z
          cases z
          exact ⟨ha, by simpa using small, us, _, pv, ha⟩
        · rw [upd_ne q] at z
          cases z
      · by_cases q : b = a
        · subst q
          exact .inr ⟨o, _, upd_same⟩
        · exact .inl (by rw [upd_ne q])
  obtain ⟨H, hok, only, out, hO, hS⟩ := step
  obtain ⟨k1, k2, env0⟩ := env_top kin gl bl boot lim ng ha hok only out
  refine codeAny_mono (F _ k1 k2 s H ⟨[.ref a], []⟩ [.ref a] [.ref a] _ _ env0 (hb s _) (.cons rfl .nil) (promise H hO hS)) fun r s' z => ?_
  cases r with
  | error e =>
    exact (let ⟨_, _, _, _, _, _, _, _, _, _, _, _, no⟩ := z; no.elim)
  | ok fl =>
    cases fl with
    | ret u =>
      obtain ⟨v, H', os, bare, un, hok', ru, rfl⟩ := z
      cases (show u = _ from ru)
      refine ⟨rfl, OldK.of_keep fun b o e => ?_, os, bare⟩
      rcases hO b with q | ⟨ob, ys, q⟩
      · exact un.keep b o e q (fun z => by cases z) (fun z => by cases z)
      · have h1 := (hok b _ q).1
        have h2 := (hok' b _ (un.frzs b ob _ q)).1
        rw [e] at h1
        cases h1
        exact h2
    | next => exact z.elim
    | brk => exact z.elim
    | cont => exact z.elim
end
/-- the goal that the head leaves -/
theorem walk_top {l : PySem.W.OpenLaw} {n : Nat} {q : Program} {loose : List Str} {XP : (Str → Option Value) → Heap → Prop} {YP : World → Heap → Prop} {d : DefRec} {g : DM} {x : Str}
    (most : l.most = some n) (small : n ≤ sizeLine) (dfl : d.params.defaults = [])
    (F : ∀ (w : World) (mg : Str → Option Value) (fa : Addr) (h : Heap), YP w h → h.Ns mainGlobals mg → mg d.name = some (.ref fa) →
      ∃ (G : Gm) (fd : FuncData), G.K.In h ∧ (∀ (s : Shared) (u : Value), BindsTo s fd ⟨[u], []⟩ [(x, u)]) ∧ ∀ base : Heap, G.K.In base → base.Ns mainGlobals mg → TopOk l.prog w G.K mg base fa fd [x] (spM G 1 g))
    (law : ∀ ns : List Int, ns.length ≤ n → ∃ h', g [.scr ns] [] = .ok (.bl true) h') :
    PySem.W.WalkO q loose XP YP l.row.toRowW d [] (fun f vs => PySem.call f vs) :=
  Att.attach_call most dfl fun w s0 s1 mg mb fa o pm cd doc a us ns gr y _ _ _ hm ho hin le ng => by
    obtain ⟨G, fd, kin, hb, hF⟩ := F w mg fa _ y gr.T.g hm
    exact call_top kin gr.T.g gr.T.b gr.T.builtins gr.T.nolimit ng ho hin (Nat.le_trans le small) hF hb fun H hO hS => law_end (G := G) rfl hO hS (law ns le)
theorem fn_badD {G : Gm} {P : Program} {w : World} {mg : Str → Option Value} {base : Heap} {f : Addr} {fd : FuncData} {ps : List Str} {k n : Nat} (hn : ps.length = n) :
    FnOk P w G.K mg base (L2.CX P w) k f fd ps (spM G n fun _ _ => .bad) := ⟨fun vs' H Q E q => by
    obtain ⟨m, h, vs, _, r, l, _⟩ := q
    rw [r.length, l, hn], fun A outer s H args us vs Q E _ _ _ _ q => by
    obtain ⟨m, h, vs, _, r, l, z⟩ := q
    exact z.elim⟩
end Mi
/-! what the meanings do, step by step -/
namespace Mi
open PySem PySem.Spec L2
abbrev XX := Nat → List (Str × Pv) → Hh → Prop
theorem Sat.left {α : Type} {r r' : Rs α} {Q : α → Hh → Prop} {E : XX} (e : r = r') : Sat r Q E = Sat r' Q E := by rw [e]
section
variable {α β : Type} {Q : α → Hh → Prop} {E : XX} {σ : Sg} {h : Hh}
@[simp] theorem st_ok {a : α} : Sat (Rs.ok a h) Q E = Q a h := rfl
@[simp] theorem st_bad : Sat (Rs.bad) Q E = False := rfl
@[simp] theorem st_ex {c : Nat} {fs : List (Str × Pv)} : Sat (Rs.ex c fs h) Q E = E c fs h := rfl
@[simp] theorem st_bind {r : Rs β} {f : β → Hh → Rs α} : Sat (r.bind f) Q E = Sat r (fun a h => Sat (f a h) Q E) E := propext sat_bind
@[simp] theorem st_some {v : α} : Sat (Rs.of (some (v, h))) Q E = Q v h := rfl
@[simp] theorem st_none : Sat (Rs.of (none : Option (α × Hh))) Q E = False := rfl
end
/-! what goes on by the kind of a value -/
def onB (k : Bool → Hh → Prop) : Pv → Hh → Prop := fun x h => match x with
  | .bl b => k b h
  | _ => False
def onI (k : Int → Hh → Prop) : Pv → Hh → Prop := fun x h => match x with
  | .int i => k i h
  | _ => False
def onS (o : Option (Option Pv)) (k : Pv → Prop) : Prop := match o with
  | some (some v) => k v
  | _ => False
def onO {α : Type} (o : Option α) (k : α → Prop) : Prop := match o with
  | some v => k v
  | none => False
@[simp] theorem onB_bl {k : Bool → Hh → Prop} {b : Bool} {h : Hh} : onB k (.bl b) h = k b h := rfl
@[simp] theorem onI_int {k : Int → Hh → Prop} {b : Int} {h : Hh} : onI k (.int b) h = k b h := rfl
@[simp] theorem onS_some {k : Pv → Prop} {v : Pv} : onS (some (some v)) k = k v := rfl
@[simp] theorem onO_some {α : Type} {k : α → Prop} {v : α} : onO (some v) k = k v := rfl
@[simp] theorem onO_none {α : Type} {k : α → Prop} : onO none k = False := rfl
def onIt (Q : Itv → Hh → Prop) : Pv → Hh → Prop := fun x h => match x with
  | .tup xs => Q (.tup xs) h
  | .str z => Q (.str z) h
  | .ref a => onO (lstAt h a) fun _ => Q (.lst a) h
  | _ => False
@[simp] theorem onIt_tup {Q : Itv → Hh → Prop} {xs : List Pv} {h : Hh} : onIt Q (.tup xs) h = Q (.tup xs) h := rfl
@[simp] theorem onIt_str {Q : Itv → Hh → Prop} {z : Str} {h : Hh} : onIt Q (.str z) h = Q (.str z) h := rfl
@[simp] theorem onIt_ref {Q : Itv → Hh → Prop} {a : Nat} {h : Hh} : onIt Q (.ref a) h = onO (lstAt h a) fun _ => Q (.lst a) h := rfl
def onL1 (k : Pv → Hh → Prop) : List Pv → Hh → Prop := fun xs h => match xs with
  | [x] => k x h
  | _ => False
def onL2 (k : Pv → Pv → Hh → Prop) : List Pv → Hh → Prop := fun xs h => match xs with
  | [x, y] => k x y h
  | _ => False
@[simp] theorem onL1_one {k : Pv → Hh → Prop} {x : Pv} {h : Hh} : onL1 k [x] h = k x h := rfl
@[simp] theorem onL2_two {k : Pv → Pv → Hh → Prop} {x y : Pv} {h : Hh} : onL2 k [x, y] h = k x y h := rfl
def onR (k : Nat → Hh → Prop) : Pv → Hh → Prop := fun x h => match x with
  | .ref a => k a h
  | _ => False
@[simp] theorem onR_ref {k : Nat → Hh → Prop} {a : Nat} {h : Hh} : onR k (.ref a) h = k a h := rfl
section
variable {Q : Fl → Hh → Prop} {E : XX} {σ : Sg} {h : Hh} {a b : EM} {c : BM} {s t : SM}
@[simp] theorem st_stm {α : Type} {r : Rs α} {k : α → Hh → Rs Fl} : Sat (r.stm σ k) Q E = Sat r (fun a h => Sat (k a h) Q E) (fun c fs h => Q (.xc σ c fs) h) := by cases r <;> rfl
/-- behind a statement -/
def Then (Q : Fl → Hh → Prop) (k : Sg → Hh → Prop) : Fl → Hh → Prop := fun f h => match f with
  | .nx σ => k σ h
  | f => Q f h
@[simp] theorem then_nx {k : Sg → Hh → Prop} : Then Q k (.nx σ) h = k σ h := rfl
@[simp] theorem then_rt {k : Sg → Hh → Prop} {v : Pv} : Then Q k (.rt v) h = Q (.rt v) h := rfl
@[simp] theorem then_bk {k : Sg → Hh → Prop} : Then Q k (.bk σ) h = Q (.bk σ) h := rfl
@[simp] theorem then_ct {k : Sg → Hh → Prop} : Then Q k (.ct σ) h = Q (.ct σ) h := rfl
@[simp] theorem then_xc {k : Sg → Hh → Prop} {c : Nat} {fs : List (Str × Pv)} : Then Q k (.xc σ c fs) h = Q (.xc σ c fs) h := rfl
@[simp] theorem st_seq : Sat (sSeq s t σ h) Q E = Sat (s σ h) (Then Q fun σ h => Sat (t σ h) Q E) E := by
  unfold sSeq
  rw [st_bind]
  congr 1
  funext f h
  cases f <;> rfl
@[simp] theorem st_skip : Sat (sSkip σ h) Q E = Q (.nx σ) h := rfl
@[simp] theorem st_break : Sat (sBreak σ h) Q E = Q (.bk σ) h := rfl
@[simp] theorem st_cont : Sat (sCont σ h) Q E = Q (.ct σ) h := rfl
@[simp] theorem st_never : Sat (sNever σ h) Q E = False := rfl
@[simp] theorem st_expr : Sat (sExpr a σ h) Q E = Sat (a σ h) (fun _ h => Q (.nx σ) h) (fun c fs h => Q (.xc σ c fs) h) := by unfold sExpr; rw [st_stm]; rfl
@[simp] theorem st_ret : Sat (sRet a σ h) Q E = Sat (a σ h) (fun v h => Q (.rt v) h) (fun c fs h => Q (.xc σ c fs) h) := by unfold sRet; rw [st_stm]; rfl
@[simp] theorem st_retN : Sat (sRetN σ h) Q E = Q (.rt .non) h := rfl
@[simp] theorem st_set {i : Nat} : Sat (sSet i a σ h) Q E = Sat (a σ h) (fun v h => Q (.nx (σ.set i (some v))) h) (fun c fs h => Q (.xc σ c fs) h) := by unfold sSet; rw [st_stm]; rfl
@[simp] theorem st_if : Sat (sIf c s t σ h) Q E = Sat (c σ h) (fun x h => if x = true then Sat (s σ h) Q E else Sat (t σ h) Q E) (fun c fs h => Q (.xc σ c fs) h) := by
  unfold sIf; rw [st_stm]
  congr 1
  funext x h
  cases x <;> rfl
@[simp] theorem st_tup {is : List Nat} : Sat (sTup is a σ h) Q E = Sat (a σ h) (fun v h => onO (unTup is v σ) fun σ2 => Q (.nx σ2) h) (fun c fs h => Q (.xc σ c fs) h) := by
  unfold sTup; rw [st_stm]
  congr 1
  funext v h
  cases unTup is v σ <;> rfl
@[simp] theorem st_par {i j : Nat} {x y : EM} : Sat (sPar i j (aCons x (aCons y aNil)) σ h) Q E = Sat (x σ h) (fun v h => Sat (y σ h) (fun w h => Q (.nx ((σ.set i (some v)).set j (some w))) h) (fun c fs h => Q (.xc σ c fs) h)) (fun c fs h => Q (.xc σ c fs) h) := by
  unfold sPar; rw [st_stm]
  unfold aCons aNil
  simp only [st_bind, st_ok]
@[simp] theorem st_sub {o i e : EM} : Sat (sSub o i e σ h) Q E = Sat (e σ h) (fun v h => Sat (o σ h) (fun ov h => Sat (i σ h) (fun iv h => onO (setO ov iv v h) fun h => Q (.nx σ) h) (fun c fs h => Q (.xc σ c fs) h)) (fun c fs h => Q (.xc σ c fs) h)) (fun c fs h => Q (.xc σ c fs) h) := by
  unfold sSub
  simp only [st_stm]
  congr 1; funext v h
  congr 1; funext ov h
  congr 1; funext iv h
  cases setO ov iv v h <;> rfl
end
section
variable {Q : Pv → Hh → Prop} {E : XX} {σ : Sg} {h : Hh} {a b d : EM} {c : BM} {o o' : OM} {u : UM} {l : LM} {as : AM}
@[simp] theorem st_var {i : Nat} : Sat (eVar i σ h) Q E = onS σ[i]? fun v => Q v h := by
  unfold eVar onS
  cases σ[i]? with
  | none => rfl
  | some o => cases o <;> rfl
@[simp] theorem st_const {v : Pv} : Sat (eC v σ h) Q E = Q v h := rfl
@[simp] theorem st_e2 : Sat (e2 o a b σ h) Q E = Sat (a σ h) (fun x h => Sat (b σ h) (fun y h => Sat (Rs.of (o x y h)) Q E) E) E := by unfold e2; simp only [st_bind]
@[simp] theorem st_e1 : Sat (e1 u a σ h) Q E = Sat (a σ h) (fun x h => Sat (Rs.of (u x h)) Q E) E := by unfold e1; simp only [st_bind]
@[simp] theorem st_not : Sat (eNot a σ h) Q E = Sat (a σ h) (fun x h => Sat (Rs.of (notO x h)) Q E) E := st_e1
@[simp] theorem st_eL : Sat (eL l as σ h) Q E = Sat (as σ h) (fun x h => Sat (Rs.of (l x h)) Q E) E := by unfold eL; simp only [st_bind]
@[simp] theorem st_and : Sat (eAnd a b σ h) Q E = Sat (a σ h) (onB fun x h => if x = true then Sat (b σ h) Q E else Q (.bl false) h) E := by
  unfold eAnd; rw [st_bind]
  congr 1; funext x h
  cases x with
  | bl k => cases k <;> rfl
  | _ => rfl
@[simp] theorem st_or : Sat (eOr a b σ h) Q E = Sat (a σ h) (onB fun x h => if x = true then Q (.bl true) h else Sat (b σ h) Q E) E := by
  unfold eOr; rw [st_bind]
  congr 1; funext x h
  cases x with
  | bl k => cases k <;> rfl
  | _ => rfl
@[simp] theorem st_ifE : Sat (eIf c a b σ h) Q E = Sat (c σ h) (fun x h => if x = true then Sat (a σ h) Q E else Sat (b σ h) Q E) E := by
  unfold eIf; rw [st_bind]
  congr 1; funext x h
  cases x <;> rfl
@[simp] theorem st_chain : Sat (eChain o o' a b d σ h) Q E = Sat (a σ h) (fun x h => Sat (b σ h) (fun y h => Sat (Rs.of (o x y h)) (onB fun z h => if z = true then Sat (d σ h) (fun w h => Sat (Rs.of (o' y w h)) Q E) E else Q (.bl false) h) E) E) E := by
  unfold eChain
  simp only [st_bind]
  congr 1; funext x h
  congr 1; funext y h
  congr 1; funext z h
  cases z with
  | bl k => cases k <;> first | rfl | (simp only [st_bind, onB_bl, if_true])
  | _ => rfl
@[simp] theorem st_slice {lo hi : Option EM} : Sat (eSl a lo hi σ h) Q E = Sat (a σ h) (fun x h => Sat (eO lo σ h) (fun l h => Sat (eO hi σ h) (fun u h => Sat (Rs.of (slO x l u h)) Q E) E) E) E := by unfold eSl; simp only [st_bind]
@[simp] theorem st_oN {R : Option Int → Hh → Prop} : Sat (eO none σ h) R E = R none h := rfl
@[simp] theorem st_oS {R : Option Int → Hh → Prop} : Sat (eO (some a) σ h) R E = Sat (a σ h) (onI fun i h => R (some i) h) E := by
  unfold eO; rw [st_bind]
  congr 1; funext x h
  cases x <;> rfl
@[simp] theorem st_aNil {R : List Pv → Hh → Prop} : Sat (aNil σ h) R E = R [] h := rfl
@[simp] theorem st_aCons {R : List Pv → Hh → Prop} : Sat (aCons a as σ h) R E = Sat (a σ h) (fun x h => Sat (as σ h) (fun xs h => R (x :: xs) h) E) E := by unfold aCons; simp only [st_bind, st_ok]
@[simp] theorem st_call {n : Nat} {g : DM} {ds : List Pv} : Sat (eCall n g as ds σ h) Q E = Sat (as σ h) (fun vs h => if (vs ++ ds).length = n then Sat (g (vs ++ ds) h) Q E else False) E := by
  unfold eCall; rw [st_bind]
  congr 1; funext vs h
  split <;> rfl
@[simp] theorem st_meth {T : String} {m : ML} : Sat (eM T m a as σ h) Q E = Sat (a σ h) (fun x h => if isT T x h = true then Sat (as σ h) (fun xs h => Sat (Rs.of (m x xs h)) Q E) E else False) E := by
  unfold eM; rw [st_bind]
  congr 1; funext x h
  split <;> simp only [st_bind, st_bad]
end
section
variable {Q : Bool → Hh → Prop} {E : XX} {σ : Sg} {h : Hh} {a : EM} {b c : BM}
@[simp] theorem st_bT : Sat (bT a σ h) Q E = Sat (a σ h) (onB Q) E := by
  unfold bT; rw [st_bind]
  congr 1; funext x h
  cases x <;> rfl
@[simp] theorem st_bAnd : Sat (bAnd b c σ h) Q E = Sat (b σ h) (fun x h => if x = true then Sat (c σ h) Q E else Q false h) E := by
  unfold bAnd; rw [st_bind]
  congr 1; funext x h
  cases x <;> rfl
@[simp] theorem st_bOr : Sat (bOr b c σ h) Q E = Sat (b σ h) (fun x h => if x = true then Q true h else Sat (c σ h) Q E) E := by
  unfold bOr; rw [st_bind]
  congr 1; funext x h
  cases x <;> rfl
@[simp] theorem st_bNot : Sat (bNot b σ h) Q E = Sat (b σ h) (fun x h => Q (!x) h) E := by unfold bNot; rw [st_bind]; rfl
@[simp] theorem st_yes : Sat (bYes σ h) Q E = Q true h := rfl
end
/-- a def -/
def Ends' (Q : Pv → Hh → Prop) (E : XX) : Fl → Hh → Prop := fun f h => match f with
  | .rt v => Q v h
  | .nx _ => Q .non h
  | .xc _ c fs => E c fs h
  | _ => False
section
variable {Q : Pv → Hh → Prop} {E : XX} {σ : Sg} {h : Hh}
@[simp] theorem ends_rt {v : Pv} : Ends' Q E (.rt v) h = Q v h := rfl
@[simp] theorem ends_nx : Ends' Q E (.nx σ) h = Q .non h := rfl
@[simp] theorem ends_xc {c : Nat} {fs : List (Str × Pv)} : Ends' Q E (.xc σ c fs) h = E c fs h := rfl
@[simp] theorem ends_bk : Ends' Q E (.bk σ) h = False := rfl
@[simp] theorem ends_ct : Ends' Q E (.ct σ) h = False := rfl
theorem st_fn {n : Nat} {b : SM} {vs : List Pv} (s : Sat (b (vs.map some ++ List.replicate (n - vs.length) none) h) (Ends' Q E) NoX) : Sat (fnM n b vs h) Q E := by
  unfold fnM
  cases q : b (vs.map some ++ List.replicate (n - vs.length) none) h with
  | bad => rw [q] at s; exact s.elim
  | ex c fs h' => rw [q] at s; exact s.elim
  | ok f h' =>
    rw [q] at s
    cases f <;> exact s
end
theorem st_fn' {Q : Pv → Hh → Prop} {E : XX} {h : Hh} {n : Nat} {b : SM} {vs : List Pv} {σ0 : Sg} (e : vs.map some ++ List.replicate (n - vs.length) none = σ0) (s : Sat (b σ0 h) (Ends' Q E) NoX) : Sat (fnM n b vs h) Q E := st_fn (by rw [e]; exact s)
theorem k_ends_rt {Q : Pv → Hh → Prop} {E : XX} {h : Hh} {v : Pv} (x : Q v h) : Ends' Q E (.rt v) h := x
theorem k_ends_nx {Q : Pv → Hh → Prop} {E : XX} {h : Hh} {σ : Sg} (x : Q .non h) : Ends' Q E (.nx σ) h := x
theorem sat_get {α : Type} {r : Rs α} {Q : α → Hh → Prop} (s : Sat r Q NoX) : ∃ a h, r = .ok a h ∧ Q a h := by
  cases r with
  | ok a h => exact ⟨a, h, rfl, s⟩
  | ex c fs h => exact s.elim
  | bad => exact s.elim
theorem Sat.then {α : Type} {r : Rs α} {P Q : α → Hh → Prop} {E : XX} (s : Sat r P NoX) (k : ∀ a h, P a h → Q a h) : Sat r Q E := s.mono k fun _ _ _ e => e.elim
/-! ### loops -/
section
variable {Q : Fl → Hh → Prop} {E : XX} {σ : Sg} {h : Hh}
/-- while, by a word and a measure -/
theorem st_while {c : BM} {b : SM} (Wd : Sg → Hh → Prop) (μ : Sg → Hh → Nat) (h0 : Wd σ h) (hm : μ σ h < 1000000)
    (turn : ∀ σ h, Wd σ h → Sat (c σ h) (fun x h1 => if x = true then Sat (b σ h1) (fun f h2 => match f with
        | .nx σ2 => Wd σ2 h2 ∧ μ σ2 h2 < μ σ h
        | .ct σ2 => Wd σ2 h2 ∧ μ σ2 h2 < μ σ h
        | .bk σ2 => Q (.nx σ2) h2
        | f => Q f h2) E else Q (.nx σ) h1) (fun c fs h => Q (.xc σ c fs) h)) : Sat (sWhile c b σ h) Q E := by
  have go : ∀ n σ h, Wd σ h → μ σ h < n → Sat (whF c b n σ h) Q E := by
    intro n
    induction n with
    | zero => intro σ h _ hn; exact absurd hn (Nat.not_lt_zero _)
    | succ n ih =>
      intro σ h w hn
      unfold whF
      rw [st_stm]
      refine (turn σ h w).mono (fun x h1 s1 => ?_) fun _ _ _ e => e
      cases x with
      | false => exact s1
      | true =>
        simp only [if_true, st_bind]
        refine Sat.mono s1 (fun f h2 s2 => ?_) fun _ _ _ e => e
        cases f with
        | nx σ2 => exact ih σ2 h2 s2.1 (by omega)
        | ct σ2 => exact ih σ2 h2 s2.1 (by omega)
        | bk σ2 => exact s2
        | rt v => exact s2
        | xc σ2 c fs => exact s2
  exact go fuelN σ h h0 hm
/-- for, by a word over the turn -/
theorem st_forF {J : Itv} {t : Tg} {b : SM} (n : Nat) (Wd : Nat → Sg → Hh → Prop) (h0 : Wd 0 σ h) (hn : n < 1000000)
    (turn : ∀ i σ h, i ≤ n → Wd i σ h → (i = n ∧ itAt J i h = some none ∧ Q (.nx σ) h) ∨ (i < n ∧ ∃ v σ1, itAt J i h = some (some v) ∧ t.put v σ = some σ1 ∧ Sat (b σ1 h) (fun f h2 => match f with
        | .nx σ2 => Wd (i + 1) σ2 h2
        | .ct σ2 => Wd (i + 1) σ2 h2
        | .bk σ2 => Q (.nx σ2) h2
        | f => Q f h2) E)) : Sat (forF J t b fuelN 0 σ h) Q E := by
  have go : ∀ k i σ h, Wd i σ h → i ≤ n → n < i + k → Sat (forF J t b k i σ h) Q E := by
    intro k
    induction k with
    | zero => intro i σ h _ h1 h2; omega
    | succ k ih =>
      intro i σ h w h1 h2
      unfold forF
      rcases turn i σ h h1 w with ⟨_, e, q⟩ | ⟨lt, v, σ1, e, e2, s⟩
      · rw [e]; exact q
      · rw [e]
        simp only
        rw [e2]
        simp only [st_bind]
        refine s.mono (fun f h2 s2 => ?_) fun _ _ _ e => e
        cases f with
        | nx σ2 => exact ih (i + 1) σ2 h2 s2 lt (by omega)
        | ct σ2 => exact ih (i + 1) σ2 h2 s2 lt (by omega)
        | bk σ2 => exact s2
        | rt v => exact s2
        | xc σ2 c fs => exact s2
  exact go fuelN 0 σ h h0 (Nat.zero_le _) (by show n < 0 + 1000000; omega)
@[simp] theorem st_for {it : IM} {t : Tg} {b : SM} : Sat (sFor it t b σ h) Q E = Sat (it σ h) (fun J h => Sat (forF J t b fuelN 0 σ h) Q E) (fun c fs h => Q (.xc σ c fs) h) := by unfold sFor; rw [st_stm]
end
section
variable {Q : Itv → Hh → Prop} {E : XX} {σ : Sg} {h : Hh} {a : EM} {as : AM}
@[simp] theorem st_iAny : Sat (iAny a σ h) Q E = Sat (a σ h) (onIt Q) E := by
  unfold iAny; rw [st_bind]
  congr 1; funext x h
  cases x <;> try rfl
  rename_i a
  show Sat (match lstAt h a with | some _ => Rs.ok (Itv.lst a) h | none => Rs.bad) Q E = onO (lstAt h a) _
  cases lstAt h a <;> rfl
@[simp] theorem st_iRng1 : Sat (iRng1 as σ h) Q E = Sat (as σ h) (onL1 (onI fun j h => -1000000000 ≤ j ∧ j ≤ 1000000000 ∧ Q (.rng 0 j.toNat) h)) E := by
  unfold iRng1; rw [st_bind]
  congr 1; funext x h
  rcases x with _ | ⟨a, _ | ⟨b, t⟩⟩
  · rfl
  · cases a <;> try rfl
    simp only [onL1_one, onI_int]
    split
    · rename_i hc; simp [hc]
    · rename_i hc
      simp only [st_bad, eq_iff_iff, false_iff]
      exact fun z => hc ⟨z.1, z.2.1⟩
  · cases a <;> rfl
@[simp] theorem st_iRng2 : Sat (iRng2 as σ h) Q E = Sat (as σ h) (onL2 fun x y h => onI (fun i h => onI (fun j h => (-1000000000 ≤ i ∧ i ≤ 1000000000 ∧ -1000000000 ≤ j ∧ j ≤ 1000000000) ∧ Q (.rng i (j - i).toNat) h) y h) x h) E := by
  unfold iRng2; rw [st_bind]
  congr 1; funext x h
  rcases x with _ | ⟨a, _ | ⟨b, _ | ⟨c, t⟩⟩⟩
  · rfl
  · cases a <;> rfl
  · cases a <;> cases b <;> try rfl
    simp only [onL2_two, onI_int]
    split
    · rename_i hc; simp [hc]
    · rename_i hc
      simp only [st_bad, eq_iff_iff, false_iff]
      exact fun z => hc z.1
  · cases a <;> cases b <;> rfl
@[simp] theorem st_iEnm : Sat (iEnm as σ h) Q E = Sat (as σ h) (onL1 (onR fun a h => onO (lstAt h a) fun _ => Q (.enm a) h)) E := by
  unfold iEnm; rw [st_bind]
  congr 1; funext x h
  rcases x with _ | ⟨a, _ | ⟨b, t⟩⟩
  · rfl
  · cases a <;> try rfl
    rename_i a
    show Sat (match lstAt h a with | some _ => Rs.ok (Itv.enm a) h | none => Rs.bad) Q E = onO (lstAt h a) _
    cases lstAt h a <;> rfl
  · cases a <;> rfl
end
/-- a comprehension, by a word over the turn and what is made so far: the heap ahead h1, the new list at its end -/
theorem st_lcF {Q : Pv → Hh → Prop} {E : XX} {J : Itv} {t : Tg} {tt : BM} {te : EM} {d : Nat} {σ0 : Sg} {h : Hh} (n : Nat) (Wd : Nat → Hh → Prop) (h0 : Wd 0 h) (hn : n < 1000000)
    (turn : ∀ i h, i ≤ n → Wd i h → (i = n ∧ itAt J i h = some none ∧ Q (.ref d) h) ∨ (i < n ∧ ∃ v σ1, itAt J i h = some (some v) ∧ t.put v σ0 = some σ1 ∧ Sat (tt σ1 h) (fun b h2 => if b = true then
        Sat (te σ1 h2) (fun y h3 => ∃ acc, lstAt h3 d = some acc ∧ acc.length < 1000000 ∧ Wd (i + 1) (h3.set d (.lst (acc ++ [y])))) NoX else Wd (i + 1) h2) NoX)) : Sat (lcF J t tt te d σ0 fuelN 0 h) Q E := by
  have go : ∀ k i h, Wd i h → i ≤ n → n < i + k → Sat (lcF J t tt te d σ0 k i h) Q E := by
    intro k
    induction k with
    | zero => intro i h _ h1 h2; omega
    | succ k ih =>
      intro i h w h1 h2
      unfold lcF
      rcases turn i h h1 w with ⟨_, e, q⟩ | ⟨lt, v, σ1, e, e2, s⟩
      · rw [e]; exact q
      · rw [e]
        simp only
        rw [e2]
        simp only
        obtain ⟨b, h2', e3, s⟩ := sat_get s
        rw [e3]
        cases b with
        | false => exact ih (i + 1) h2' s lt (by omega)
        | true =>
          simp only [if_true] at s ⊢
          obtain ⟨y, h3, e4, acc, e5, hl, w2⟩ := sat_get s
          rw [e4]
          simp only
          rw [e5]
          simp only
          rw [if_pos hl]
          exact ih (i + 1) _ w2 lt (by omega)
  exact go fuelN 0 h h0 (Nat.zero_le _) (by show n < 0 + 1000000; omega)
@[simp] theorem st_lc {Q : Pv → Hh → Prop} {E : XX} {σ : Sg} {h : Hh} {it : IM} {t : Tg} {tt : BM} {te : EM} {vs : List Nat} : Sat (eLc it t tt te vs σ h) Q E = Sat (it σ h) (fun J h1 => Sat (lcF J t tt te h1.length (wipeP σ vs) fuelN 0 (h1 ++ [.lst []])) Q E) E := by unfold eLc; simp only [st_bind]
end Mi
/-! the same as steps backwards -/
namespace Mi
open PySem PySem.Spec L2
section
variable {Q : Fl → Hh → Prop} {E : XX} {σ : Sg} {h : Hh} {a b : EM} {c : BM} {s t : SM}
theorem k_seq (x : Sat (s σ h) (Then Q fun σ h => Sat (t σ h) Q E) E) : Sat (sSeq s t σ h) Q E := st_seq.mpr x
theorem k_then_nx {k : Sg → Hh → Prop} (x : k σ h) : Then Q k (.nx σ) h := x
theorem k_then_rt {k : Sg → Hh → Prop} {v : Pv} (x : Q (.rt v) h) : Then Q k (.rt v) h := x
theorem k_then_bk {k : Sg → Hh → Prop} (x : Q (.bk σ) h) : Then Q k (.bk σ) h := x
theorem k_then_ct {k : Sg → Hh → Prop} (x : Q (.ct σ) h) : Then Q k (.ct σ) h := x
theorem k_skip (x : Q (.nx σ) h) : Sat (sSkip σ h) Q E := x
theorem k_break (x : Q (.bk σ) h) : Sat (sBreak σ h) Q E := x
theorem k_cont (x : Q (.ct σ) h) : Sat (sCont σ h) Q E := x
theorem k_expr (x : Sat (a σ h) (fun _ h => Q (.nx σ) h) (fun c fs h => Q (.xc σ c fs) h)) : Sat (sExpr a σ h) Q E := st_expr.mpr x
theorem k_ret (x : Sat (a σ h) (fun v h => Q (.rt v) h) (fun c fs h => Q (.xc σ c fs) h)) : Sat (sRet a σ h) Q E := st_ret.mpr x
theorem k_retN (x : Q (.rt .non) h) : Sat (sRetN σ h) Q E := x
/-- a slot is stored -/
def put : Nat → Pv → Sg → Sg
  | _, _, [] => []
  | 0, v, _ :: σ => some v :: σ
  | i + 1, v, o :: σ => o :: put i v σ
theorem put_eq : ∀ (i : Nat) (v : Pv) (σ : Sg), σ.set i (some v) = put i v σ
  | _, _, [] => by simp [put]
  | 0, _, _ :: _ => rfl
  | i + 1, v, o :: σ => by simp [put, put_eq i v σ]
theorem k_set {i : Nat} (x : Sat (a σ h) (fun v h => Q (.nx (put i v σ)) h) (fun c fs h => Q (.xc σ c fs) h)) : Sat (sSet i a σ h) Q E := by
  rw [st_set]
  simp only [put_eq]
  exact x
theorem k_if (x : Sat (c σ h) (fun x h => if x = true then Sat (s σ h) Q E else Sat (t σ h) Q E) (fun c fs h => Q (.xc σ c fs) h)) : Sat (sIf c s t σ h) Q E := st_if.mpr x
theorem k_par {i j : Nat} {x y : EM} (z : Sat (x σ h) (fun v h => Sat (y σ h) (fun w h => Q (.nx (put j w (put i v σ))) h) (fun c fs h => Q (.xc σ c fs) h)) (fun c fs h => Q (.xc σ c fs) h)) : Sat (sPar i j (aCons x (aCons y aNil)) σ h) Q E := by
  rw [st_par]
  simp only [put_eq]
  exact z
theorem k_tup {is : List Nat} (x : Sat (a σ h) (fun v h => onO (unTup is v σ) fun σ2 => Q (.nx σ2) h) (fun c fs h => Q (.xc σ c fs) h)) : Sat (sTup is a σ h) Q E := st_tup.mpr x
theorem k_sub {o i e : EM} (x : Sat (e σ h) (fun v h => Sat (o σ h) (fun ov h => Sat (i σ h) (fun iv h => onO (setO ov iv v h) fun h => Q (.nx σ) h) (fun c fs h => Q (.xc σ c fs) h)) (fun c fs h => Q (.xc σ c fs) h)) (fun c fs h => Q (.xc σ c fs) h)) : Sat (sSub o i e σ h) Q E := st_sub.mpr x
theorem k_for {it : IM} {t : Tg} {b : SM} (x : Sat (it σ h) (fun J h => Sat (forF J t b fuelN 0 σ h) Q E) (fun c fs h => Q (.xc σ c fs) h)) : Sat (sFor it t b σ h) Q E := st_for.mpr x
end
theorem k_some {α : Type} {o : Option α} {v : α} {k : α → Prop} (e : o = some v) (x : k v) : onO o k := by rw [e]; exact x
/-- a slot is read -/
def slot : Sg → Nat → Option Pv
  | [], _ => none
  | o :: _, 0 => o
  | _ :: σ, i + 1 => slot σ i
theorem slot_eq : ∀ (σ : Sg) (i : Nat) (v : Pv), slot σ i = some v → σ[i]? = some (some v)
  | [], _, _, e => by cases e
  | o :: _, 0, _, e => by simpa using (show o = _ from e)
  | _ :: σ, i + 1, v, e => by simpa using slot_eq σ i v e
section
variable {Q : Pv → Hh → Prop} {E : XX} {σ : Sg} {h : Hh} {a b d : EM} {c : BM} {o o' : OM} {u : UM} {l : LM} {as : AM}
theorem k_var {i : Nat} {v : Pv} (e : slot σ i = some v) (x : Q v h) : Sat (eVar i σ h) Q E := by
  rw [st_var, slot_eq σ i v e]; exact x
theorem k_const {v : Pv} (x : Q v h) : Sat (eC v σ h) Q E := x
theorem k_e2 (x : Sat (a σ h) (fun x h => Sat (b σ h) (fun y h => Sat (Rs.of (o x y h)) Q E) E) E) : Sat (e2 o a b σ h) Q E := st_e2.mpr x
theorem k_e1 (x : Sat (a σ h) (fun x h => Sat (Rs.of (u x h)) Q E) E) : Sat (e1 u a σ h) Q E := st_e1.mpr x
theorem k_not (x : Sat (a σ h) (fun x h => Sat (Rs.of (notO x h)) Q E) E) : Sat (eNot a σ h) Q E := st_not.mpr x
theorem k_eL (x : Sat (as σ h) (fun x h => Sat (Rs.of (l x h)) Q E) E) : Sat (eL l as σ h) Q E := st_eL.mpr x
theorem k_and (x : Sat (a σ h) (onB fun x h => if x = true then Sat (b σ h) Q E else Q (.bl false) h) E) : Sat (eAnd a b σ h) Q E := st_and.mpr x
theorem k_or (x : Sat (a σ h) (onB fun x h => if x = true then Q (.bl true) h else Sat (b σ h) Q E) E) : Sat (eOr a b σ h) Q E := st_or.mpr x
theorem k_ifE (x : Sat (c σ h) (fun x h => if x = true then Sat (a σ h) Q E else Sat (b σ h) Q E) E) : Sat (eIf c a b σ h) Q E := st_ifE.mpr x
theorem k_chain (x : Sat (a σ h) (fun x h => Sat (b σ h) (fun y h => Sat (Rs.of (o x y h)) (onB fun z h => if z = true then Sat (d σ h) (fun w h => Sat (Rs.of (o' y w h)) Q E) E else Q (.bl false) h) E) E) E) : Sat (eChain o o' a b d σ h) Q E := st_chain.mpr x
theorem k_slice {lo hi : Option EM} (x : Sat (a σ h) (fun x h => Sat (eO lo σ h) (fun l h => Sat (eO hi σ h) (fun u h => Sat (Rs.of (slO x l u h)) Q E) E) E) E) : Sat (eSl a lo hi σ h) Q E := st_slice.mpr x
theorem k_oN {R : Option Int → Hh → Prop} (x : R none h) : Sat (eO none σ h) R E := x
theorem k_oS {R : Option Int → Hh → Prop} (x : Sat (a σ h) (onI fun i h => R (some i) h) E) : Sat (eO (some a) σ h) R E := st_oS.mpr x
theorem k_aNil {R : List Pv → Hh → Prop} (x : R [] h) : Sat (aNil σ h) R E := x
theorem k_aCons {R : List Pv → Hh → Prop} (x : Sat (a σ h) (fun x h => Sat (as σ h) (fun xs h => R (x :: xs) h) E) E) : Sat (aCons a as σ h) R E := st_aCons.mpr x
theorem k_call1 {g : DM} (x : Sat (a σ h) (fun v h => Sat (g [v] h) Q E) E) : Sat (eCall 1 g (aCons a aNil) [] σ h) Q E := by
  rw [st_call]
  simpa using x
theorem k_call2 {g : DM} (x : Sat (a σ h) (fun v h => Sat (b σ h) (fun w h => Sat (g [v, w] h) Q E) E) E) : Sat (eCall 2 g (aCons a (aCons b aNil)) [] σ h) Q E := by
  rw [st_call]
  simpa using x
theorem k_call3 {g : DM} (x : Sat (a σ h) (fun v h => Sat (b σ h) (fun w h => Sat (d σ h) (fun y h => Sat (g [v, w, y] h) Q E) E) E) E) : Sat (eCall 3 g (aCons a (aCons b (aCons d aNil))) [] σ h) Q E := by
  rw [st_call]
  simpa using x
theorem k_meth {T : String} {m : ML} (x : Sat (a σ h) (fun x h => isT T x h = true ∧ Sat (as σ h) (fun xs h => Sat (Rs.of (m x xs h)) Q E) E) E) : Sat (eM T m a as σ h) Q E := by
  rw [st_meth]
  refine Sat.mono x (fun x h z => ?_) fun _ _ _ e => e
  rw [if_pos z.1]
  exact z.2
theorem k_lc {it : IM} {t : Tg} {tt : BM} {te : EM} {vs : List Nat} (x : Sat (it σ h) (fun J h1 => Sat (lcF J t tt te h1.length (wipeP σ vs) fuelN 0 (h1 ++ [.lst []])) Q E) E) : Sat (eLc it t tt te vs σ h) Q E := st_lc.mpr x
end
section
variable {Q : Bool → Hh → Prop} {E : XX} {σ : Sg} {h : Hh} {a : EM} {b c : BM}
theorem k_bT (x : Sat (a σ h) (onB Q) E) : Sat (bT a σ h) Q E := st_bT.mpr x
theorem k_bAnd (x : Sat (b σ h) (fun x h => if x = true then Sat (c σ h) Q E else Q false h) E) : Sat (bAnd b c σ h) Q E := st_bAnd.mpr x
theorem k_bOr (x : Sat (b σ h) (fun x h => if x = true then Q true h else Sat (c σ h) Q E) E) : Sat (bOr b c σ h) Q E := st_bOr.mpr x
theorem k_bNot (x : Sat (b σ h) (fun x h => Q (!x) h) E) : Sat (bNot b σ h) Q E := st_bNot.mpr x
theorem k_yes (x : Q true h) : Sat (bYes σ h) Q E := x
end
section
variable {Q : Itv → Hh → Prop} {E : XX} {σ : Sg} {h : Hh} {a : EM} {as : AM}
theorem k_iAny (x : Sat (a σ h) (onIt Q) E) : Sat (iAny a σ h) Q E := st_iAny.mpr x
theorem k_iRng1 (x : Sat (as σ h) (onL1 (onI fun j h => -1000000000 ≤ j ∧ j ≤ 1000000000 ∧ Q (.rng 0 j.toNat) h)) E) : Sat (iRng1 as σ h) Q E := st_iRng1.mpr x
theorem k_iRng2 (x : Sat (as σ h) (onL2 fun x y h => onI (fun i h => onI (fun j h => (-1000000000 ≤ i ∧ i ≤ 1000000000 ∧ -1000000000 ≤ j ∧ j ≤ 1000000000) ∧ Q (.rng i (j - i).toNat) h) y h) x h) E) : Sat (iRng2 as σ h) Q E := st_iRng2.mpr x
theorem k_iEnm (x : Sat (as σ h) (onL1 (onR fun a h => onO (lstAt h a) fun _ => Q (.enm a) h)) E) : Sat (iEnm as σ h) Q E := st_iEnm.mpr x
end
theorem k_onB {k : Bool → Hh → Prop} {b : Bool} {h : Hh} (x : k b h) : onB k (.bl b) h := x
theorem k_onI {k : Int → Hh → Prop} {b : Int} {h : Hh} (x : k b h) : onI k (.int b) h := x
theorem k_onR {k : Nat → Hh → Prop} {b : Nat} {h : Hh} (x : k b h) : onR k (.ref b) h := x
theorem k_onL1 {k : Pv → Hh → Prop} {x : Pv} {h : Hh} (z : k x h) : onL1 k [x] h := z
theorem k_onL2 {k : Pv → Pv → Hh → Prop} {x y : Pv} {h : Hh} (z : k x y h) : onL2 k [x, y] h := z
theorem k_itT {Q : Itv → Hh → Prop} {xs : List Pv} {h : Hh} (z : Q (.tup xs) h) : onIt Q (.tup xs) h := z
theorem k_itS {Q : Itv → Hh → Prop} {z : Str} {h : Hh} (x : Q (.str z) h) : onIt Q (.str z) h := x
theorem k_itR {Q : Itv → Hh → Prop} {a : Nat} {xs : List Pv} {h : Hh} (e : lstAt h a = some xs) (x : Q (.lst a) h) : onIt Q (.ref a) h := by
  rw [onIt_ref, e]; exact x
theorem k_true {A B : Prop} (x : A) : if true = true then A else B := x
theorem k_false {A B : Prop} (x : B) : if false = true then A else B := by simpa using x
theorem k_ntrue {A B : Prop} (x : B) : if (!true) = true then A else B := by simpa using x
theorem k_nfalse {A B : Prop} (x : A) : if (!false) = true then A else B := by simpa using x
theorem k_dec {p : Prop} [Decidable p] {A B : Prop} (x : p → A) (y : ¬ p → B) : if decide p = true then A else B := by
  by_cases hp : p
  · simp only [hp, decide_true, if_true]; exact x hp
  · simp only [hp, decide_false, Bool.false_eq_true, if_false]; exact y hp
theorem k_decN {p : Prop} [Decidable p] {A B : Prop} (x : ¬ p → A) (y : p → B) : if (!decide p) = true then A else B := by
  by_cases hp : p
  · simp only [hp, decide_true, Bool.not_true, Bool.false_eq_true, if_false]; exact y hp
  · simp only [hp, decide_false, Bool.not_false, if_true]; exact x hp
theorem k_decT {p : Prop} [Decidable p] {A B : Prop} (hp : p) (x : A) : if decide p = true then A else B := k_dec (fun _ => x) fun n => absurd hp n
theorem k_decF {p : Prop} [Decidable p] {A B : Prop} (hp : ¬ p) (x : B) : if decide p = true then A else B := k_dec (fun n => absurd n hp) fun _ => x
/-! ### operations -/
section
variable {Q : Pv → Hh → Prop} {E : XX} {h : Hh}
theorem k_of {o : Option (Pv × Hh)} {v : Pv} {h' : Hh} (e : o = some (v, h')) (x : Q v h') : Sat (Rs.of o) Q E := by rw [e]; exact x
theorem k_addI {i j : Int} (x : Q (.int (i + j)) h) : Sat (Rs.of (addO (.int i) (.int j) h)) Q E := x
theorem k_addS {i j : Str} (hl : i.length + j.length ≤ 1000000) (x : Q (.str (i ++ j)) h) : Sat (Rs.of (addO (.str i) (.str j) h)) Q E := k_of (by simp [addO, hl]) x
theorem k_addL {a b : Nat} {xs ys : List Pv} (e1 : lstAt h a = some xs) (e2 : lstAt h b = some ys) (hl : xs.length + ys.length ≤ 1000000) (x : Q (.ref h.length) (h ++ [.lst (xs ++ ys)])) : Sat (Rs.of (addO (.ref a) (.ref b) h)) Q E := by
  refine k_of (v := .ref h.length) (h' := h ++ [.lst (xs ++ ys)]) ?_ x
  have g : ∀ {a xs}, lstAt h a = some xs → h[a]? = some (.lst xs) := fun {a xs} e => by
    unfold lstAt at e; split at e
    · rename_i q; cases e; exact q
    · cases e
  simp only [addO, g e1, g e2, if_pos hl]
theorem k_subI {i j : Int} (x : Q (.int (i - j)) h) : Sat (Rs.of (subO (.int i) (.int j) h)) Q E := x
theorem k_mulI {i j : Int} (hc : (-18446744073709551616 < i ∧ i < 18446744073709551616) ∨ (-18446744073709551616 < j ∧ j < 18446744073709551616)) (x : Q (.int (i * j)) h) : Sat (Rs.of (mulO (.int i) (.int j) h)) Q E := k_of (by simp only [mulO]; rw [if_pos (.inr hc)]) x
theorem log_small {j : Int} (h0 : 0 < j) (h1 : j < 1000000000000000000000) : j.natAbs.log2 < 9000 := by
  have h2 : j.natAbs < 2 ^ 80 := by
    have : (2 : Nat) ^ 80 = 1208925819614629174706176 := by decide
    omega
  have := (Nat.log2_lt (by omega)).mpr h2
  omega
theorem k_divI {i j : Int} (h0 : 0 < j) (h1 : j < 1000000000000000000000) (x : Q (.int (i / j)) h) : Sat (Rs.of (fdivO (.int i) (.int j) h)) Q E := by
  refine k_of ?_ x
  simp only [fdivO]
  rw [if_pos ⟨h0, log_small h0 h1⟩]
theorem k_modI {i j : Int} (h0 : 0 < j) (x : Q (.int (i % j)) h) : Sat (Rs.of (modO (.int i) (.int j) h)) Q E := k_of (by simp only [modO]; rw [if_pos h0]) x
theorem k_powI {i j : Int} (hc : 0 ≤ j ∧ j ≤ 1000 ∧ i.natAbs < 2 ^ 64) (x : Q (.int (i ^ j.toNat)) h) : Sat (Rs.of (powO (.int i) (.int j) h)) Q E := k_of (by simp only [powO]; rw [if_pos hc]) x
theorem k_ltI {i j : Int} (x : Q (.bl (decide (i < j))) h) : Sat (Rs.of (ltO (.int i) (.int j) h)) Q E := x
theorem k_gtI {i j : Int} (x : Q (.bl (decide (j < i))) h) : Sat (Rs.of (gtO (.int i) (.int j) h)) Q E := x
theorem k_leI {i j : Int} (x : Q (.bl (decide (i ≤ j))) h) : Sat (Rs.of (leO (.int i) (.int j) h)) Q E := x
theorem k_geI {i j : Int} (x : Q (.bl (decide (j ≤ i))) h) : Sat (Rs.of (geO (.int i) (.int j) h)) Q E := x
theorem k_eqI {i j : Int} (x : Q (.bl (decide (i = j))) h) : Sat (Rs.of (eqO (.int i) (.int j) h)) Q E := x
theorem k_neI {i j : Int} (x : Q (.bl (!decide (i = j))) h) : Sat (Rs.of (neO (.int i) (.int j) h)) Q E := x
theorem k_eqS {i j : Str} (x : Q (.bl (decide (i = j))) h) : Sat (Rs.of (eqO (.str i) (.str j) h)) Q E := x
theorem k_neS {i j : Str} (x : Q (.bl (!decide (i = j))) h) : Sat (Rs.of (neO (.str i) (.str j) h)) Q E := x
theorem k_negI {i : Int} (x : Q (.int (-i)) h) : Sat (Rs.of (negO (.int i) h)) Q E := x
theorem k_notB {b : Bool} (x : Q (.bl (!b)) h) : Sat (Rs.of (notO (.bl b) h)) Q E := x
theorem k_intI {i : Int} (x : Q (.int i) h) : Sat (Rs.of (intO [.int i] h)) Q E := x
theorem k_maxI {i j : Int} (x : Q (.int (if j > i then j else i)) h) : Sat (Rs.of (maxO [.int i, .int j] h)) Q E := x
theorem k_minI {i j : Int} (x : Q (.int (if j < i then j else i)) h) : Sat (Rs.of (minO [.int i, .int j] h)) Q E := x
theorem k_lst {xs : List Pv} (hl : xs.length ≤ 1000000) (x : Q (.ref h.length) (h ++ [.lst xs])) : Sat (Rs.of (lstO xs h)) Q E := k_of (by simp only [lstO]; rw [if_pos hl]) x
theorem k_tupD {xs : List Pv} (hl : xs.length ≤ 1000000) (x : Q (.tup xs) h) : Sat (Rs.of (tupO xs h)) Q E := k_of (by simp only [tupO]; rw [if_pos hl]) x
theorem lst_at {a : Nat} {xs : List Pv} (e : lstAt h a = some xs) : h[a]? = some (.lst xs) := by
  unfold lstAt at e; split at e
  · rename_i q; cases e; exact q
  · cases e
theorem at_lst {a : Nat} {xs : List Pv} (e : h[a]? = some (.lst xs)) : lstAt h a = some xs := by
  unfold lstAt; rw [e]
theorem k_lenS {ns : List Int} (x : Q (.int ns.length) h) : Sat (Rs.of (lenO [.scr ns] h)) Q E := x
theorem k_lenL {a : Nat} {xs : List Pv} (e : lstAt h a = some xs) (x : Q (.int xs.length) h) : Sat (Rs.of (lenO [.ref a] h)) Q E := k_of (by simp only [lenO, lst_at e]) x
theorem k_lenT {z : Str} (hl : z.length ≤ 1000000) (x : Q (.int z.length) h) : Sat (Rs.of (lenO [.str z] h)) Q E := k_of (by simp only [lenO]; rw [if_pos hl]) x
theorem k_ixS {ns : List Int} {i : Int} {v : Int} (e : atI ns i = some v) (x : Q (.int v) h) : Sat (Rs.of (ixO (.scr ns) (.int i) h)) Q E := k_of (by simp only [ixO, e]; rfl) x
theorem k_ixL {a : Nat} {xs : List Pv} {i : Int} {v : Pv} (e : lstAt h a = some xs) (e2 : atI xs i = some v) (x : Q v h) : Sat (Rs.of (ixO (.ref a) (.int i) h)) Q E := k_of (by simp only [ixO, lst_at e, e2]; rfl) x
theorem k_ixT {xs : List Pv} {i : Int} {v : Pv} (e2 : atI xs i = some v) (x : Q v h) : Sat (Rs.of (ixO (.tup xs) (.int i) h)) Q E := k_of (by simp only [ixO, e2]; rfl) x
theorem k_slL {a : Nat} {xs : List Pv} {lo hi : Option Int} (e : lstAt h a = some xs) (x : Q (.ref h.length) (h ++ [.lst (cutP xs lo hi)])) : Sat (Rs.of (slO (.ref a) lo hi h)) Q E := k_of (by simp only [slO, lst_at e]) x
theorem k_slS {z : Str} {lo hi : Option Int} (hl : z.length ≤ 1000000) (x : Q (.str (cutS z lo hi)) h) : Sat (Rs.of (slO (.str z) lo hi h)) Q E := k_of (by simp only [slO]; rw [if_pos hl]) x
theorem k_append {a : Nat} {xs : List Pv} {v : Pv} (e : lstAt h a = some xs) (hl : xs.length < 1000000) (x : Q .non (h.set a (.lst (xs ++ [v])))) : Sat (Rs.of (appendO (.ref a) [v] h)) Q E := k_of (by simp only [appendO, lstOf, lst_at e]; rw [if_pos hl]) x
theorem k_popAt {a : Nat} {xs : List Pv} {i : Nat} {v : Pv} (e : lstAt h a = some xs) (e2 : xs[i]? = some v) (hi : i < 1000000) (x : Q v (h.set a (.lst (xs.eraseIdx i)))) : Sat (Rs.of (popO (.ref a) [.int i] h)) Q E := by
  have hlt : i < xs.length := (List.getElem?_eq_some_iff.mp e2).1
  have ek : seqIndex? (i : Int) xs.length = some i := by
    have := (ixN_seq (n := xs.length) (i := (i : Int)) (j := i) (by unfold ixN; rw [if_pos (by omega), if_pos (by omega)]; simp)).1
    exact this
  refine k_of ?_ x
  simp only [popO, lstOf, lst_at e, ek]
  rw [if_pos (by omega), e2]; rfl
theorem k_extend {a b : Nat} {xs ys : List Pv} (e : lstAt h a = some xs) (e2 : lstAt h b = some ys) (hl : xs.length + ys.length ≤ 1000000) (x : Q .non (h.set a (.lst (xs ++ ys)))) : Sat (Rs.of (extendO (.ref a) [.ref b] h)) Q E := k_of (by simp only [extendO, lstOf, lst_at e, lst_at e2]; rw [if_pos hl]) x
theorem k_isL {a : Nat} {xs : List Pv} (e : lstAt h a = some xs) : isT "list" (.ref a) h = true := by simp only [isT, lst_at e]; rfl
end
theorem slot_put_lt : ∀ (σ : Sg) (i j : Nat) (v : Pv), i < j → slot (put j v σ) i = slot σ i
  | [], i, j, v, _ => by cases j <;> rfl
  | o :: σ, 0, j + 1, _, _ => rfl
  | o :: σ, i + 1, j + 1, v, h => slot_put_lt σ i j v (by omega)
theorem slot_put_ne : ∀ (σ : Sg) (i j : Nat) (v : Pv), i ≠ j → slot (put j v σ) i = slot σ i
  | [], i, j, v, _ => by cases j <;> rfl
  | o :: σ, 0, 0, _, h => absurd rfl h
  | o :: σ, 0, j + 1, _, _ => rfl
  | o :: σ, i + 1, 0, _, _ => rfl
  | o :: σ, i + 1, j + 1, v, h => slot_put_ne σ i j v (by omega)
theorem slot_put : ∀ (σ : Sg) (j : Nat) (v : Pv), j < σ.length → slot (put j v σ) j = some v
  | [], j, v, h => by simp at h
  | o :: σ, 0, v, _ => rfl
  | o :: σ, j + 1, v, h => slot_put σ j v (by simpa using h)
theorem put_len : ∀ (σ : Sg) (j : Nat) (v : Pv), (put j v σ).length = σ.length
  | [], 0, _ => rfl
  | [], _ + 1, _ => rfl
  | o :: σ, 0, v => rfl
  | o :: σ, j + 1, v => by simp [put, put_len σ j v]
end Mi
/-! frames of heaps -/
namespace Mi
open PySem PySem.Spec L2
theorem lst_lt {h : Hh} {a : Nat} {xs : List Pv} (e : lstAt h a = some xs) : a < h.length := (List.getElem?_eq_some_iff.mp (lst_at e)).1
theorem lst_new {h : Hh} {xs : List Pv} : lstAt (h ++ [.lst xs]) h.length = some xs := at_lst (by simp)
theorem lst_old {h : Hh} {a : Nat} {o : Ob} {xs : List Pv} (e : lstAt h a = some xs) : lstAt (h ++ [o]) a = some xs := at_lst (by rw [List.getElem?_append_left (lst_lt e)]; exact lst_at e)
theorem lst_set {h : Hh} {a : Nat} {xs ys : List Pv} (e : lstAt h a = some xs) : lstAt (h.set a (.lst ys)) a = some ys := at_lst (List.getElem?_set_self (lst_lt e))
theorem lst_ne {h : Hh} {a b : Nat} {o : Ob} {xs : List Pv} (e : lstAt h b = some xs) (ne : a ≠ b) : lstAt (h.set a o) b = some xs := at_lst (by rw [List.getElem?_set_ne ne]; exact lst_at e)
/-- all that stood stands -/
structure Ext (h h' : Hh) : Prop where
  len : h.length ≤ h'.length
  keep : ∀ i, i < h.length → h'[i]? = h[i]?
theorem Ext.refl {h : Hh} : Ext h h := ⟨Nat.le_refl _, fun _ _ => rfl⟩
theorem Ext.trans {h h1 h2 : Hh} (a : Ext h h1) (b : Ext h1 h2) : Ext h h2 := ⟨Nat.le_trans a.len b.len, fun i hi => (b.keep i (Nat.lt_of_lt_of_le hi a.len)).trans (a.keep i hi)⟩
theorem Ext.lst {h h' : Hh} {a : Nat} {xs : List Pv} (x : Ext h h') (e : lstAt h a = some xs) : lstAt h' a = some xs := at_lst (by rw [x.keep a (lst_lt e)]; exact lst_at e)
theorem Ext.snoc {h h' : Hh} {o : Ob} (x : Ext h h') : Ext h (h' ++ [o]) := ⟨by have := x.len; simp; omega, fun i hi => by
  rw [List.getElem?_append_left (Nat.lt_of_lt_of_le hi x.len)]; exact x.keep i hi⟩
theorem Ext.put {h h' : Hh} {a : Nat} {o : Ob} (x : Ext h h') (ha : h.length ≤ a) : Ext h (h'.set a o) := ⟨by simpa using x.len, fun i hi => by
  rw [List.getElem?_set_ne (by omega)]; exact x.keep i hi⟩
/-- the draws' list -/
def Src (h : Hh) (a : Nat) : Prop := ∃ x y z : Int, lstAt h a = some [.int x, .int y, .int z]
/-- all that stood stands, but the draws' list at a, which stays one -/
structure Mod (a : Nat) (h h' : Hh) : Prop where
  len : h.length ≤ h'.length
  keep : ∀ i, i < h.length → i ≠ a → h'[i]? = h[i]?
  src : Src h' a
theorem Src.lt {h : Hh} {a : Nat} (s : Src h a) : a < h.length := let ⟨_, _, _, e⟩ := s; lst_lt e
theorem Mod.refl {a : Nat} {h : Hh} (s : Src h a) : Mod a h h := ⟨Nat.le_refl _, fun _ _ _ => rfl, s⟩
theorem Mod.trans {a : Nat} {h h1 h2 : Hh} (x : Mod a h h1) (y : Mod a h1 h2) : Mod a h h2 := ⟨Nat.le_trans x.len y.len, fun i hi ne => (y.keep i (Nat.lt_of_lt_of_le hi x.len) ne).trans (x.keep i hi ne), y.src⟩
theorem Mod.lst {a : Nat} {h h' : Hh} {b : Nat} {xs : List Pv} (x : Mod a h h') (e : lstAt h b = some xs) (ne : b ≠ a) : lstAt h' b = some xs := at_lst (by rw [x.keep b (lst_lt e) ne]; exact lst_at e)
theorem Mod.snoc {a : Nat} {h h' : Hh} {o : Ob} (x : Mod a h h') : Mod a h (h' ++ [o]) := ⟨by have := x.len; simp; omega, fun i hi ne => by
  rw [List.getElem?_append_left (Nat.lt_of_lt_of_le hi x.len)]; exact x.keep i hi ne, let ⟨p, q, r, e⟩ := x.src; ⟨p, q, r, lst_old e⟩⟩
theorem Mod.put {a b : Nat} {h h' : Hh} {o : Ob} (x : Mod a h h') (hb : h.length ≤ b) (ne : b ≠ a) : Mod a h (h'.set b o) := ⟨by simpa using x.len, fun i hi n2 => by
  rw [List.getElem?_set_ne (by omega)]; exact x.keep i hi n2, let ⟨p, q, r, e⟩ := x.src; ⟨p, q, r, lst_ne e ne⟩⟩
theorem Mod.draw {a : Nat} {h h' : Hh} {p q r : Int} (x : Mod a h h') : Mod a h (h'.set a (.lst [.int p, .int q, .int r])) := ⟨by simpa using x.len, fun i hi ne => by
  rw [List.getElem?_set_ne (Ne.symm ne)]; exact x.keep i hi ne, let ⟨_, _, _, e⟩ := x.src; ⟨p, q, r, lst_set e⟩⟩
theorem Mod.ext {a : Nat} {h h1 h2 : Hh} (x : Mod a h h1) (y : Ext h1 h2) : Mod a h h2 := ⟨Nat.le_trans x.len y.len, fun i hi ne => (y.keep i (Nat.lt_of_lt_of_le hi x.len)).trans (x.keep i hi ne), let ⟨p, q, r, e⟩ := x.src; ⟨p, q, r, y.lst e⟩⟩
/-! lists against [] -/
theorem k_eqNil {Q : Pv → Hh → Prop} {E : XX} {h : Hh} {a b : Nat} {xs : List Pv} (e : lstAt h a = some xs) (e2 : lstAt h b = some []) (ne : a ≠ b) (x : Q (.bl (decide (xs = []))) h) : Sat (Rs.of (eqO (.ref a) (.ref b) h)) Q E := by
  refine k_of ?_ x
  simp only [eqO, eqP, lst_at e, lst_at e2, if_neg ne]
  cases xs with
  | nil => rfl
  | cons y ys => simp
theorem k_neNil {Q : Pv → Hh → Prop} {E : XX} {h : Hh} {a b : Nat} {xs : List Pv} (e : lstAt h a = some xs) (e2 : lstAt h b = some []) (ne : a ≠ b) (x : Q (.bl (!decide (xs = []))) h) : Sat (Rs.of (neO (.ref a) (.ref b) h)) Q E := by
  refine k_of ?_ x
  simp only [neO, eqP, lst_at e, lst_at e2, if_neg ne]
  cases xs with
  | nil => rfl
  | cons y ys => simp
theorem k_listL {Q : Pv → Hh → Prop} {E : XX} {h : Hh} {a : Nat} {xs : List Pv} (e : lstAt h a = some xs) (x : Q (.ref h.length) (h ++ [.lst xs])) : Sat (Rs.of (listO [.ref a] h)) Q E := k_of (by simp only [listO, lst_at e]) x
theorem k_setL {h : Hh} {a : Nat} {xs : List Pv} {i : Int} {j : Nat} {v : Pv} {k : Hh → Prop} (e : lstAt h a = some xs) (ej : ixN xs.length i = some j) (x : k (h.set a (.lst (xs.set j v)))) : onO (setO (.ref a) (.int i) v h) k := by
  refine k_some (v := h.set a (.lst (xs.set j v))) ?_ x
  simp only [setO, lst_at e, ej, Option.map_some]
end Mi
namespace Mi
open PySem PySem.Spec L2
inductive All2 {α β : Type} (R : α → β → Prop) : List α → List β → Prop
  | nil : All2 R [] []
  | cons {a : α} {b : β} {as : List α} {bs : List β} : R a b → All2 R as bs → All2 R (a :: as) (b :: bs)
section
variable {α β γ : Type} {R S : α → β → Prop}
theorem All2.imp : ∀ {as : List α} {bs : List β}, All2 R as bs → (∀ a b, R a b → S a b) → All2 S as bs
  | _, _, .nil, _ => .nil
  | _, _, .cons r t, f => .cons (f _ _ r) (All2.imp t f)
theorem All2.length : ∀ {as : List α} {bs : List β}, All2 R as bs → as.length = bs.length
  | _, _, .nil => rfl
  | _, _, .cons _ t => by simp [All2.length t]
theorem All2.app : ∀ {as as' : List α} {bs bs' : List β}, All2 R as bs → All2 R as' bs' → All2 R (as ++ as') (bs ++ bs')
  | _, _, _, _, .nil, s => s
  | _, _, _, _, .cons r t, s => .cons r (All2.app t s)
theorem All2.get : ∀ {as : List α} {bs : List β} {i : Nat} {a : α}, All2 R as bs → as[i]? = some a → ∃ b, bs[i]? = some b ∧ R a b
  | _, _, _, _, .nil, e => by simp at e
  | _, _, 0, _, .cons r t, e => by simp at e; subst e; exact ⟨_, rfl, r⟩
  | _, _, i + 1, _, .cons r t, e => by
    obtain ⟨b, h1, h2⟩ := All2.get (i := i) t (by simpa using e)
    exact ⟨b, by simpa using h1, h2⟩
theorem All2.reverse : ∀ {as : List α} {bs : List β}, All2 R as bs → All2 R as.reverse bs.reverse
  | _, _, .nil => .nil
  | _, _, .cons r t => by
    rw [List.reverse_cons, List.reverse_cons]
    exact (All2.reverse t).app (.cons r .nil)
theorem All2.take : ∀ {as : List α} {bs : List β} (n : Nat), All2 R as bs → All2 R (as.take n) (bs.take n)
  | _, _, 0, _ => .nil
  | _, _, _ + 1, .nil => .nil
  | _, _, n + 1, .cons r t => .cons r (All2.take n t)
theorem All2.drop : ∀ {as : List α} {bs : List β} (n : Nat), All2 R as bs → All2 R (as.drop n) (bs.drop n)
  | _, _, 0, h => h
  | _, _, _ + 1, .nil => .nil
  | _, _, n + 1, .cons r t => All2.drop n t
theorem All2.map_left {f : γ → α} : ∀ {cs : List γ} {bs : List β}, All2 (fun c b => R (f c) b) cs bs → All2 R (cs.map f) bs
  | _, _, .nil => .nil
  | _, _, .cons r t => .cons r (All2.map_left t)
theorem All2.map_right {f : γ → β} : ∀ {as : List α} {cs : List γ}, All2 (fun a c => R a (f c)) as cs → All2 R as (cs.map f)
  | _, _, .nil => .nil
  | _, _, .cons r t => .cons r (All2.map_right t)
theorem All2.fn {f : α → β} : ∀ {as : List α} {bs : List β}, All2 (fun a b => b = f a) as bs → bs = as.map f
  | _, _, .nil => rfl
  | _, _, .cons r t => by rw [r, All2.fn t]; rfl
end
theorem All2.comp {α β γ : Type} {R : α → β → Prop} {S : α → γ → Prop} : ∀ {as : List α} {bs : List β} {cs : List γ}, All2 R as bs → All2 S as cs → All2 (fun b c => ∃ a, R a b ∧ S a c) bs cs
  | _, _, _, .nil, .nil => .nil
  | _, _, _, .cons r t, .cons s u => .cons ⟨_, r, s⟩ (All2.comp t u)
theorem perm_erase {α : Type} : ∀ (l : List α) (i : Nat) (hi : i < l.length), (l[i] :: l.eraseIdx i).Perm l
  | x :: l, 0, _ => by simp
  | x :: l, i + 1, hi => by
    have ih := perm_erase l i (by simpa using hi)
    simp only [List.getElem_cons_succ, List.eraseIdx_cons_succ]
    exact (List.Perm.swap _ _ _).trans (List.Perm.cons x ih)
/-- behind h1, but for the list at its end: what stood stands -/
structure Bey (d : Nat) (h h' : Hh) : Prop where
  len : h.length ≤ h'.length
  keep : ∀ i, i < h.length → i ≠ d → h'[i]? = h[i]?
theorem Bey.trans {d : Nat} {h h1 h2 : Hh} (a : Bey d h h1) (b : Bey d h1 h2) : Bey d h h2 := ⟨Nat.le_trans a.len b.len, fun i hi ne => (b.keep i (Nat.lt_of_lt_of_le hi a.len) ne).trans (a.keep i hi ne)⟩
theorem Ext.bey {d : Nat} {h h' : Hh} (x : Ext h h') : Bey d h h' := ⟨x.len, fun i hi _ => x.keep i hi⟩
theorem Bey.lst {d : Nat} {h h' : Hh} {a : Nat} {xs : List Pv} (x : Bey d h h') (e : lstAt h a = some xs) (ne : a ≠ d) : lstAt h' a = some xs := at_lst (by rw [x.keep a (lst_lt e) ne]; exact lst_at e)
theorem bey_set {d : Nat} {h : Hh} {o : Ob} : Bey d h (h.set d o) := ⟨by simp, fun i hi ne => by rw [List.getElem?_set_ne (Ne.symm ne)]⟩
/-- a comprehension over a list that the block leaves: p x, whether it is taken; R h x v: v is what x gives -/
theorem st_lcJ {Q : Pv → Hh → Prop} {E : XX} {t : Tg} {tt : BM} {te : EM} {σ0 : Sg} {h1 : Hh} {J : Itv} {xs : List Pv} (p : Pv → Bool) (R : Hh → Pv → Pv → Prop) (hJ : ∀ i h, Ext h1 h → itAt J i h = some xs[i]?) (hl : xs.length < 1000000)
    (hR : ∀ h h' x v, R h x v → Bey h1.length h h' → R h' x v)
    (turn : ∀ x h, x ∈ xs → Ext h1 h → h1.length < h.length → ∃ σ1, t.put x σ0 = some σ1 ∧ Sat (tt σ1 h) (fun b h2 => b = p x ∧ Ext h h2 ∧ (b = true → Sat (te σ1 h2) (fun y h3 => R h3 x y ∧ Ext h2 h3) NoX)) NoX)
    (fin : ∀ h' vs, Ext h1 h' → h1.length < h'.length → lstAt h' h1.length = some vs → All2 (R h') (xs.filter p) vs → Q (.ref h1.length) h') :
    Sat (lcF J t tt te h1.length σ0 fuelN 0 (h1 ++ [.lst []])) Q E := by
  refine st_lcF xs.length (fun i h => Ext h1 h ∧ h1.length < h.length ∧ ∃ vs, lstAt h h1.length = some vs ∧ vs.length ≤ i ∧ All2 (R h) ((xs.take i).filter p) vs) ⟨Ext.refl.snoc, by simp, [], lst_new, Nat.le_refl _, .nil⟩ hl fun i h hi w => ?_
  obtain ⟨x1, lt, vs, e1, hv, al⟩ := w
  have ea' := hJ i h x1
  by_cases hlt : i < xs.length
  · refine .inr ⟨hlt, xs[i], ?_⟩
    obtain ⟨σ1, e2, s⟩ := turn xs[i] h (List.getElem_mem hlt) x1 lt
    refine ⟨σ1, by rw [ea', List.getElem?_eq_getElem hlt], e2, s.then fun b h2 q => ?_⟩
    obtain ⟨eb, x2, s2⟩ := q
    have tk : xs.take (i + 1) = xs.take i ++ [xs[i]] := by rw [List.take_add_one, List.getElem?_eq_getElem hlt]; rfl
    cases b with
    | false =>
      simp only [Bool.false_eq_true, if_false]
      refine ⟨x1.trans x2, Nat.lt_of_lt_of_le lt x2.len, vs, x2.lst e1, by omega, ?_⟩
      rw [tk, List.filter_append]
      have : [xs[i]].filter p = [] := by simp [← eb]
      rw [this, List.append_nil]
      exact al.imp fun x v r => hR _ _ _ _ r x2.bey
    | true =>
      simp only [if_true]
      refine (s2 rfl).then fun y h3 q => ?_
      obtain ⟨r3, x3⟩ := q
      have e3 := x3.lst (x2.lst e1)
      refine ⟨vs, e3, by omega, ((x1.trans x2).trans x3).put (Nat.le_refl _), ?_, vs ++ [y], lst_set e3, by simp; omega, ?_⟩
      · simp only [List.length_set]
        exact Nat.lt_of_lt_of_le lt (Nat.le_trans x2.len x3.len)
      · rw [tk, List.filter_append]
        have : [xs[i]].filter p = [xs[i]] := by simp [← eb]
        rw [this]
        exact (al.imp fun x v r => hR _ _ _ _ (hR _ _ _ _ r (x2.trans x3).bey) bey_set).app (.cons (hR _ _ _ _ r3 bey_set) .nil)
  · have e : i = xs.length := by omega
    subst e
    refine .inl ⟨rfl, by rw [ea', List.getElem?_eq_none (Nat.le_refl _)], fin h vs x1 lt e1 ?_⟩
    rwa [List.take_length] at al
theorem st_lcL {Q : Pv → Hh → Prop} {E : XX} {t : Tg} {tt : BM} {te : EM} {σ0 : Sg} {h1 : Hh} {a : Nat} {xs : List Pv} (p : Pv → Bool) (R : Hh → Pv → Pv → Prop) (ea : lstAt h1 a = some xs) (hl : xs.length < 1000000)
    (hR : ∀ h h' x v, R h x v → Bey h1.length h h' → R h' x v)
    (turn : ∀ x h, x ∈ xs → Ext h1 h → h1.length < h.length → ∃ σ1, t.put x σ0 = some σ1 ∧ Sat (tt σ1 h) (fun b h2 => b = p x ∧ Ext h h2 ∧ (b = true → Sat (te σ1 h2) (fun y h3 => R h3 x y ∧ Ext h2 h3) NoX)) NoX)
    (fin : ∀ h' vs, Ext h1 h' → h1.length < h'.length → lstAt h' h1.length = some vs → All2 (R h') (xs.filter p) vs → Q (.ref h1.length) h') :
    Sat (lcF (.lst a) t tt te h1.length σ0 fuelN 0 (h1 ++ [.lst []])) Q E := st_lcJ p R (fun i h x => by simp [itAt, x.lst ea]) hl hR turn fin
/-! ### lists of texts, lists of such lists -/
abbrev svs (xs : List Str) : List Pv := xs.map Pv.str
def LS (h : Hh) (a : Nat) (xs : List Str) : Prop := lstAt h a = some (svs xs)
def LLR (h : Hh) : Pv → List Str → Prop := fun v xs => ∃ q, v = .ref q ∧ LS h q xs
def LL (h : Hh) (a : Nat) (xss : List (List Str)) : Prop := ∃ vs, lstAt h a = some vs ∧ All2 (LLR h) vs xss
theorem eqL_svs {h : Hh} {n : Nat} : ∀ (xs ys : List Str), eqL (eqP h (n + 1)) (svs xs) (svs ys) = some (decide (xs = ys))
  | [], [] => by simp [eqL, svs]
  | [], _ :: _ => by simp [eqL, svs]
  | _ :: _, [] => by simp [eqL, svs]
  | x :: xs, y :: ys => by
    have ih := eqL_svs (h := h) (n := n) xs ys
    simp only [svs, List.map_cons] at ih ⊢
    unfold eqL
    rw [ih]
    have : eqP h (n + 1) (.str x) (.str y) = some (decide (x = y)) := rfl
    rw [this]
    by_cases e1 : x = y <;> by_cases e2 : xs = ys <;> simp [e1, e2]
theorem svs_inj : ∀ {xs ys : List Str}, svs xs = svs ys → xs = ys
  | [], [], _ => rfl
  | [], _ :: _, e => by simp [svs] at e
  | _ :: _, [], e => by simp [svs] at e
  | x :: xs, y :: ys, e => by
    simp only [svs, List.map_cons, List.cons.injEq, Pv.str.injEq] at e
    rw [e.1, svs_inj e.2]
theorem eqP_LS {h : Hh} {a b n : Nat} {xs ys : List Str} (e1 : LS h a xs) (e2 : LS h b ys) : eqP h (n + 2) (.ref a) (.ref b) = some (decide (xs = ys)) := by
  unfold LS at e1 e2
  have q : eqP h (n + 2) (.ref a) (.ref b) = if a = b then some true else if (svs xs).length = (svs ys).length then eqL (eqP h (n + 1)) (svs xs) (svs ys) else some false := by
    simp only [eqP, lst_at e1, lst_at e2]
  rw [q]
  by_cases hab : a = b
  · subst hab
    rw [e1] at e2
    have : xs = ys := svs_inj (Option.some.inj e2)
    simp [this]
  · rw [if_neg hab]
    by_cases hl : (svs xs).length = (svs ys).length
    · rw [if_pos hl]; exact eqL_svs xs ys
    · rw [if_neg hl]
      have : xs ≠ ys := fun z => hl (by rw [z])
      simp [this]
theorem anyP_svs {h : Hh} {n : Nat} (x : Str) : ∀ (xs : List Str), anyP (fun z => eqP h (n + 1) z (.str x)) (svs xs) = some (decide (x ∈ xs))
  | [] => rfl
  | y :: ys => by
    have ih := anyP_svs (h := h) (n := n) x ys
    simp only [svs, List.map_cons] at ih ⊢
    unfold anyP
    rw [ih]
    have : eqP h (n + 1) (.str y) (.str x) = some (decide (y = x)) := rfl
    rw [this]
    by_cases e1 : y = x
    · simp [e1]
    · have : ¬ x = y := fun z => e1 z.symm
      simp [e1, this]
theorem anyP_LL {h : Hh} {n q : Nat} {xs : List Str} (e : LS h q xs) : ∀ {vs : List Pv} {xss : List (List Str)}, All2 (LLR h) vs xss → anyP (fun z => eqP h (n + 2) z (.ref q)) vs = some (decide (xs ∈ xss))
  | _, _, .nil => rfl
  | _, _, .cons (b := ys) (bs := yss) r t => by
    obtain ⟨p, rfl, ep⟩ := r
    unfold anyP
    rw [anyP_LL e t, eqP_LS ep e]
    by_cases e1 : ys = xs
    · simp [e1]
    · have : ¬ xs = ys := fun z => e1 z.symm
      simp [e1, this]
section
variable {Q : Pv → Hh → Prop} {E : XX} {h : Hh}
theorem k_inLS {a : Nat} {xs : List Str} {x : Str} (e : LS h a xs) (z : Q (.bl (decide (x ∈ xs))) h) : Sat (Rs.of (inO (.str x) (.ref a) h)) Q E := k_of (by simp only [inO, inB, lst_at e]; rw [anyP_svs]; rfl) z
theorem k_inLL {a q : Nat} {xss : List (List Str)} {xs : List Str} (e : LL h a xss) (e2 : LS h q xs) (z : Q (.bl (decide (xs ∈ xss))) h) : Sat (Rs.of (inO (.ref q) (.ref a) h)) Q E := by
  obtain ⟨vs, e1, al⟩ := e
  exact k_of (by simp only [inO, inB, lst_at e1]; rw [anyP_LL e2 al]; rfl) z
theorem k_notInLL {a q : Nat} {xss : List (List Str)} {xs : List Str} (e : LL h a xss) (e2 : LS h q xs) (z : Q (.bl (!decide (xs ∈ xss))) h) : Sat (Rs.of (notInO (.ref q) (.ref a) h)) Q E := by
  obtain ⟨vs, e1, al⟩ := e
  exact k_of (by simp only [notInO, inB, lst_at e1]; rw [anyP_LL e2 al]; rfl) z
theorem k_neLS {a b : Nat} {xs ys : List Str} (e : LS h a xs) (e2 : LS h b ys) (z : Q (.bl (!decide (xs = ys))) h) : Sat (Rs.of (neO (.ref a) (.ref b) h)) Q E := k_of (by simp only [neO]; rw [eqP_LS (n := 38) e e2]; rfl) z
end
/-- lists of texts, made behind b -/
def LRF (b : Nat) (h : Hh) : Pv → List Str → Prop := fun v xs => ∃ q, v = .ref q ∧ b ≤ q ∧ LS h q xs
def LLF (b : Nat) (h : Hh) (a : Nat) (xss : List (List Str)) : Prop := ∃ vs, lstAt h a = some vs ∧ All2 (LRF b h) vs xss
theorem LLF.ll {b : Nat} {h : Hh} {a : Nat} {xss : List (List Str)} (x : LLF b h a xss) : LL h a xss := by
  obtain ⟨vs, e, al⟩ := x
  exact ⟨vs, e, al.imp fun v xs ⟨q, e1, _, e2⟩ => ⟨q, e1, e2⟩⟩
theorem LS.ext {h h' : Hh} {a : Nat} {xs : List Str} (e : LS h a xs) (x : Ext h h') : LS h' a xs := x.lst e
theorem LL.ext {h h' : Hh} {a : Nat} {xss : List (List Str)} (e : LL h a xss) (x : Ext h h') : LL h' a xss := by
  obtain ⟨vs, e1, al⟩ := e
  exact ⟨vs, x.lst e1, al.imp fun v ys ⟨q, e2, e3⟩ => ⟨q, e2, e3.ext x⟩⟩
theorem LRF.ext {b : Nat} {h h' : Hh} {v : Pv} {xs : List Str} (x : Ext h h') (r : LRF b h v xs) : LRF b h' v xs := let ⟨q, e1, e2, e3⟩ := r; ⟨q, e1, e2, e3.ext x⟩
theorem LRF.low {b c : Nat} {h : Hh} {v : Pv} {xs : List Str} (r : LRF b h v xs) (l : c ≤ b) : LRF c h v xs := let ⟨q, e1, e2, e3⟩ := r; ⟨q, e1, Nat.le_trans l e2, e3⟩
theorem LLF.ext {b : Nat} {h h' : Hh} {a : Nat} {xss : List (List Str)} (e : LLF b h a xss) (x : Ext h h') : LLF b h' a xss := by
  obtain ⟨vs, e1, al⟩ := e
  exact ⟨vs, x.lst e1, al.imp fun v ys r => r.ext x⟩
/-- all choices of so many of a list, in order -/
def cmb : Nat → List Str → List (List Str)
  | 0, _ => [[]]
  | m + 1, xs => (List.range xs.length).flatMap fun i => (cmb m (xs.drop (i + 1))).map (xs.getD i "" :: ·)
theorem cmb_len (L : Nat) : ∀ (m : Nat) (xs : List Str), xs.length ≤ L → (cmb m xs).length ≤ L ^ m
  | 0, xs, _ => by simp [cmb]
  | m + 1, xs, hx => by
    have ih := cmb_len L m
    have go : ∀ n, n ≤ xs.length → ((List.range n).flatMap fun i => (cmb m (xs.drop (i + 1))).map (xs.getD i "" :: ·)).length ≤ n * L ^ m := by
      intro n
      induction n with
      | zero => intro _; simp
      | succ n ihn =>
        intro hn
        rw [List.range_succ, List.flatMap_append, List.length_append]
        have h1 := ihn (by omega)
        have h2 := ih (xs.drop (n + 1)) (by simp; omega)
        simp only [List.flatMap_singleton, List.length_map]
        rw [Nat.succ_mul]
        omega
    have := go xs.length (Nat.le_refl _)
    refine Nat.le_trans this ?_
    rw [Nat.pow_succ, Nat.mul_comm]
    exact Nat.mul_le_mul_left _ hx
theorem cut_from {xs : List Pv} {n : Nat} : cutP xs (some (n : Int)) none = xs.drop n := by
  unfold cutP
  rw [HT.sIx_none, HT.sIx_nat]
  by_cases h : n ≤ xs.length
  · rw [Nat.min_eq_left h]
    exact List.take_of_length_le (by simp)
  · rw [Nat.min_eq_right (by omega), List.drop_of_length_le (Nat.le_refl _), List.drop_of_length_le (by omega)]
    simp
theorem cut_to {xs : List Pv} {n : Nat} : cutP xs none (some (n : Int)) = xs.take n := by
  unfold cutP
  rw [HT.sIx_none, HT.sIx_nat]
  simp only [List.drop_zero, Nat.sub_zero]
  by_cases h : n ≤ xs.length
  · rw [Nat.min_eq_left h]
  · rw [Nat.min_eq_right (by omega), List.take_of_length_le (Nat.le_refl _), List.take_of_length_le (by omega)]
section
variable {Q : Pv → Hh → Prop} {E : XX} {h : Hh}
theorem blsP_map : ∀ (bs : List Bool), blsP (bs.map Pv.bl) = some bs
  | [] => rfl
  | b :: bs => by simp [blsP, blsP_map bs]
theorem k_all {a : Nat} {bs : List Bool} (e : lstAt h a = some (bs.map Pv.bl)) (x : Q (.bl (bs.all id)) h) : Sat (Rs.of (allO [.ref a] h)) Q E := k_of (by simp only [allO, lst_at e, blsP_map]; rfl) x
theorem k_allT {a : Nat} {vs : List Pv} (e : lstAt h a = some vs) (ht : ∀ v ∈ vs, v = .bl true) (x : Q (.bl true) h) : Sat (Rs.of (allO [.ref a] h)) Q E := by
  have ev : vs = (vs.map fun _ => true).map Pv.bl := by
    rw [List.map_map]
    exact (List.map_id' vs).symm.trans (List.map_congr_left fun v hv => ht v hv)
  rw [ev] at e
  refine k_all e ?_
  have : ((vs.map fun _ => true).all id) = true := by simp
  rw [this]; exact x
theorem k_isiL {a : Nat} {xs : List Pv} (e : lstAt h a = some xs) (x : Q (.bl true) h) : Sat (Rs.of (isiO "list" [.ref a, .ty "list"] h)) Q E := k_of (by simp only [isiO, tyP, lst_at e, if_true]; rfl) x
theorem k_isiS {z : Str} (x : Q (.bl true) h) : Sat (Rs.of (isiO "str" [.str z, .ty "str"] h)) Q E := k_of (by simp only [isiO, tyP, if_true]; rfl) x
theorem k_inS {i j : Str} (x : Q (.bl (inS i j)) h) : Sat (Rs.of (inO (.str i) (.str j) h)) Q E := x
theorem k_isNotNon {v : Pv} (hv : v ≠ .non) (x : Q (.bl true) h) : Sat (Rs.of (isNotO v .non h)) Q E := by
  refine k_of (v := .bl true) ?_ x
  cases v <;> first | rfl | exact absurd rfl hv
theorem k_isNotNon0 (x : Q (.bl false) h) : Sat (Rs.of (isNotO .non .non h)) Q E := x
theorem keysP_svs : ∀ (xs : List Str), keysP (svs xs) = some (xs.map Sum.inr)
  | [] => rfl
  | x :: xs => by
    have ih := keysP_svs xs
    simp only [svs, List.map_cons, keysP] at ih ⊢
    rw [ih]; rfl
theorem ddK_nodup (ks : List Key) (hn : ks.Nodup) : ddK ks = ks := by
  have go : ∀ (ks acc : List Key), (acc ++ ks).Nodup → ks.foldl dd1 acc = acc ++ ks := by
    intro ks
    induction ks with
    | nil => intro acc _; simp
    | cons k ks ih =>
      intro acc hn
      have h1 : dd1 acc k = acc ++ [k] := by
        unfold dd1
        rw [if_neg]
        intro z
        obtain ⟨y, hy, e⟩ := List.any_eq_true.mp z
        have : y = k := of_decide_eq_true e
        subst this
        rw [List.nodup_append] at hn
        exact hn.2.2 y hy y List.mem_cons_self rfl
      rw [List.foldl_cons, h1, ih (acc ++ [k]) (by simpa using hn)]
      simp
  exact go ks [] (by simpa using hn)
theorem k_lenSet {a : Nat} {xs : List Str} (e : LS h a xs) (hn : xs.Nodup) (hl : xs.length < 4000) (x : Q (.int xs.length) h) : Sat (Rs.of (lenSetO (.ref a) h)) Q E := by
  refine k_of (v := .int xs.length) (h' := h) ?_ x
  have hn' : (xs.map (Sum.inr : Str → Key)).Nodup := by
    rw [List.Nodup, List.pairwise_map]
    exact hn.imp fun ne z => ne (Sum.inr.inj z)
  simp only [lenSetO, lstOf, lst_at e, keysP_svs, List.length_map]
  rw [if_pos hl, ddK_nodup _ hn', List.length_map]
theorem k_sorted {a : Nat} {xs : List Str} (e : LS h a xs) (hl : xs.length < 64) (x : Q (.ref h.length) (h ++ [.lst (svs (ssort xs))])) : Sat (Rs.of (sortedO [.ref a] h)) Q E := by
  have sp : ∀ (xs : List Str), strsP (svs xs) = some xs := by
    intro xs
    induction xs with
    | nil => rfl
    | cons y ys ih =>
      simp only [svs, List.map_cons, strsP] at ih ⊢
      rw [ih]; rfl
  refine k_of (v := .ref h.length) (h' := h ++ [.lst (svs (ssort xs))]) ?_ x
  simp only [sortedO, lst_at e, sp]
  rw [if_pos hl]
end
end Mi
namespace Pg
open PySem PySem.Spec PyProof.Rows L2 Mi

def topS (i : Nat) : Stmt := PySem.Challenge.pw_busyleaves_k38_triples_in_doubt.main.body.getD i (.Pass ⟨0, 0, 0, 0⟩)
abbrev gm (K : PySem.W.Frag) : Gm := ⟨K, fun _ => 0⟩
abbrev s__law_choices : Stmt := topS 20
abbrev n__law_choices : List Str := ["_law_things", "_law_many", "_law_found", "_law_at", "_law_rest"]
abbrev p__law_choices : List Str := ["_law_things", "_law_many"]
theorem sc__law_choices : FnScope n__law_choices p__law_choices (defScope s__law_choices) := ⟨rfl, rfl, rfl, by decide +kernel, rfl, by decide +kernel, by decide +kernel⟩
abbrev s__law_doubt : Stmt := topS 21
abbrev n__law_doubt : List Str := ["_law_leaves", "_law_groups_here", "_law_triple", "_law_traces", "_law_pairs", "_law_group", "_law_leaf", "_law_pair"]
abbrev p__law_doubt : List Str := ["_law_leaves", "_law_groups_here"]
theorem sc__law_doubt : FnScope n__law_doubt p__law_doubt (defScope s__law_doubt) := ⟨rfl, rfl, rfl, by decide +kernel, rfl, by decide +kernel, by decide +kernel⟩
abbrev s__law_mixed : Stmt := topS 16
abbrev n__law_mixed : List Str := ["_law_cell", "_law_k", "_law_low"]
abbrev p__law_mixed : List Str := ["_law_cell", "_law_k"]
theorem sc__law_mixed : FnScope n__law_mixed p__law_mixed (defScope s__law_mixed) := ⟨rfl, rfl, rfl, by decide +kernel, rfl, by decide +kernel, by decide +kernel⟩
abbrev s__law_next : Stmt := topS 18
abbrev n__law_next : List Str := ["_law_source_here", "_law_many", "_law_found"]
abbrev p__law_next : List Str := ["_law_source_here", "_law_many"]
theorem sc__law_next : FnScope n__law_next p__law_next (defScope s__law_next) := ⟨rfl, rfl, rfl, by decide +kernel, rfl, by decide +kernel, by decide +kernel⟩
abbrev s__law_shuffled : Stmt := topS 19
abbrev n__law_shuffled : List Str := ["_law_source_here", "_law_things", "_law_left", "_law_found"]
abbrev p__law_shuffled : List Str := ["_law_source_here", "_law_things"]
theorem sc__law_shuffled : FnScope n__law_shuffled p__law_shuffled (defScope s__law_shuffled) := ⟨rfl, rfl, rfl, by decide +kernel, rfl, by decide +kernel, by decide +kernel⟩
abbrev s__law_groups : Stmt := topS 22
abbrev n__law_groups : List Str := ["_law_source_here", "_law_names", "_law_found", "_law_turn", "_law_many", "_law_one", "_law_name"]
abbrev p__law_groups : List Str := ["_law_source_here", "_law_names"]
theorem sc__law_groups : FnScope n__law_groups p__law_groups (defScope s__law_groups) := ⟨rfl, rfl, rfl, by decide +kernel, rfl, by decide +kernel, by decide +kernel⟩
abbrev s__law_cell_at : Stmt := topS 15
abbrev n__law_cell_at : List Str := ["_law_script", "_law_k"]
abbrev p__law_cell_at : List Str := ["_law_script", "_law_k"]
theorem sc__law_cell_at : FnScope n__law_cell_at p__law_cell_at (defScope s__law_cell_at) := ⟨rfl, rfl, rfl, by decide +kernel, rfl, by decide +kernel, by decide +kernel⟩
abbrev s__law_source : Stmt := topS 17
abbrev n__law_source : List Str := ["_law_script", "_law_k", "_law_cell"]
abbrev p__law_source : List Str := ["_law_script", "_law_k"]
theorem sc__law_source : FnScope n__law_source p__law_source (defScope s__law_source) := ⟨rfl, rfl, rfl, by decide +kernel, rfl, by decide +kernel, by decide +kernel⟩
abbrev s_are_some : Stmt := topS 11
abbrev n_are_some : List Str := ["thing", "leaves", "leaf"]
abbrev p_are_some : List Str := ["thing", "leaves"]
theorem sc_are_some : FnScope n_are_some p_are_some (defScope s_are_some) := ⟨rfl, rfl, rfl, by decide +kernel, rfl, by decide +kernel, by decide +kernel⟩
abbrev s_is_name : Stmt := topS 7
abbrev n_is_name : List Str := ["thing", "sign"]
abbrev p_is_name : List Str := ["thing"]
theorem sc_is_name : FnScope n_is_name p_is_name (defScope s_is_name) := ⟨rfl, rfl, rfl, by decide +kernel, rfl, by decide +kernel, by decide +kernel⟩
abbrev s_check_leaves : Stmt := topS 10
abbrev n_check_leaves : List Str := ["leaves", "most", "leaf"]
abbrev p_check_leaves : List Str := ["leaves", "most"]
theorem sc_check_leaves : FnScope n_check_leaves p_check_leaves (defScope s_check_leaves) := ⟨rfl, rfl, rfl, by decide +kernel, rfl, by decide +kernel, by decide +kernel⟩
abbrev s_some_of : Stmt := topS 12
abbrev n_some_of : List Str := ["things", "many", "found", "at", "rest"]
abbrev p_some_of : List Str := ["things", "many"]
theorem sc_some_of : FnScope n_some_of p_some_of (defScope s_some_of) := ⟨rfl, rfl, rfl, by decide +kernel, rfl, by decide +kernel, by decide +kernel⟩
abbrev s_in_doubt : Stmt := topS 13
abbrev n_in_doubt : List Str := ["leaves", "sets", "names", "triple", "seen", "pairs", "one", "leaf", "pair"]
abbrev p_in_doubt : List Str := ["leaves", "sets"]
theorem sc_in_doubt : FnScope n_in_doubt p_in_doubt (defScope s_in_doubt) := ⟨rfl, rfl, rfl, by decide +kernel, rfl, by decide +kernel, by decide +kernel⟩
abbrev s_law : Stmt := topS 23
abbrev n_law : List Str := ["_law_script", "_law_k", "_law_source_here", "_law_many", "_law_names", "_law_word", "_law_turn", "_law_groups_here", "_law_kept", "_law_due", "_law_told", "_law_others", "_law_name", "_law_group"]
abbrev p_law : List Str := ["_law_script"]
theorem sc_law : FnScope n_law p_law (defScope s_law) := ⟨rfl, rfl, rfl, by decide +kernel, rfl, by decide +kernel, by decide +kernel⟩
def d__law_choices : Nat → DM
  | 0 => fun _ _ => .bad
  | n + 1 => fnM 5 ((sSeq (sIf (bT (e2 eqO (eVar 1) (eC (.int 0)))) (sRet (eL lstO (aCons (eL lstO aNil) aNil))) sSkip)
    (sSeq (sSet 2 (eL lstO aNil))
    (sSeq (sFor (iRng1 (aCons (eL lenO (aCons (eVar 0) aNil)) aNil)) (.one 3) (sExpr (eM "list" extendO (eVar 2) (aCons (eLc (iAny (eCall 2 (d__law_choices n) (aCons (eSl (eVar 0) (some (e2 addO (eVar 3) (eC (.int 1)))) none) (aCons (e2 subO (eVar 1) (eC (.int 1))) aNil)) [])) (.one 4) bYes (e2 addO (eL lstO (aCons (e2 ixO (eVar 0) (eVar 3)) aNil)) (eVar 4)) [4]) aNil))))
    (sRet (eVar 2))))))
def d__law_doubt : DM := fnM 8 ((sSeq (sFor (iAny (eCall 2 (d__law_choices 5) (aCons (eL sortedO (aCons (eVar 0) aNil)) (aCons (eC (.int 3)) aNil)) [])) (.one 2) (sSeq (sSet 3 (eLc (iAny (eVar 1)) (.one 5) bYes (eL sortedO (aCons (eLc (iAny (eVar 2)) (.one 6) (bT (e2 inO (eVar 6) (eVar 5))) (eVar 6) [6]) aNil)) [5]))
    (sSeq (sSet 4 (eLc (iAny (eCall 2 (d__law_choices 5) (aCons (eVar 2) (aCons (eC (.int 2)) aNil)) [])) (.one 7) (bT (e2 inO (eVar 7) (eVar 3))) (eVar 7) [7]))
    (sIf (bOr (bT (e2 notInO (eVar 2) (eVar 3))) (bT (e2 ltO (eL lenO (aCons (eVar 4) aNil)) (eC (.int 2))))) (sRet (eVar 2)) sSkip))))
    (sRet (eC .non))))
def d__law_mixed : DM := fnM 3 ((sSeq (sSet 2 (e2 addO (e2 modO (eL intO (aCons (eVar 0) aNil)) (eC (.int 2147483629))) (e2 mulO (e2 fdivO (eVar 0) (eC (.int 2147483629))) (eC (.int 30011)))))
    (sSeq (sSet 2 (e2 modO (eL intO (aCons (e2 mulO (e2 addO (e2 addO (eVar 2) (e2 mulO (eC (.int 69621)) (eVar 1))) (eC (.int 1))) (eC (.int 48271))) aNil)) (eC (.int 2147483629))))
    (sSeq (sSet 2 (e2 modO (eL intO (aCons (e2 mulO (eVar 2) (e2 addO (e2 addO (e2 fdivO (eVar 2) (eC (.int 907))) (eC (.int 16831))) (eVar 1))) aNil)) (eC (.int 2147483587))))
    (sRet (e2 modO (eL intO (aCons (e2 mulO (eVar 2) (e2 addO (e2 fdivO (eVar 2) (eC (.int 1201))) (eC (.int 30011)))) aNil)) (eC (.int 2147483563))))))))
def d__law_next : DM := fnM 3 ((sSeq (sIf (bT (e2 geO (e2 ixO (eVar 0) (eC (.int 0))) (e2 powO (eC (.int 10)) (eC (.int 18))))) (sSeq (sSet 2 (e2 modO (eL intO (aCons (e2 ixO (eVar 0) (eC (.int 0))) aNil)) (eVar 1)))
    (sSeq (sSub (eVar 0) (eC (.int 0)) (e2 fdivO (e2 ixO (eVar 0) (eC (.int 0))) (eVar 1)))
    (sRet (eVar 2)))) sSkip)
    (sSeq (sSub (eVar 0) (eC (.int 2)) (e2 addO (e2 ixO (eVar 0) (eC (.int 2))) (eC (.int 1))))
    (sRet (e2 modO (eL intO (aCons (eCall 2 d__law_mixed (aCons (e2 ixO (eVar 0) (eC (.int 1))) (aCons (e2 ixO (eVar 0) (eC (.int 2))) aNil)) []) aNil)) (eVar 1))))))
def d__law_shuffled : DM := fnM 4 ((sSeq (sPar 2 3 (aCons (eL listO (aCons (eVar 1) aNil)) (aCons (eL lstO aNil) aNil)))
    (sSeq (sWhile (bT (e2 neO (eVar 2) (eL lstO aNil))) (sExpr (eM "list" appendO (eVar 3) (aCons (eM "list" popO (eVar 2) (aCons (eCall 2 d__law_next (aCons (eVar 0) (aCons (eL lenO (aCons (eVar 2) aNil)) aNil)) []) aNil)) aNil))))
    (sRet (eVar 3)))))
def d__law_groups : DM := fnM 7 ((sSeq (sSet 2 (eL lstO aNil))
    (sSeq (sFor (iRng1 (aCons (eCall 2 d__law_next (aCons (eVar 0) (aCons (eC (.int 13)) aNil)) []) aNil)) (.one 3) (sSeq (sSet 4 (e2 ixO (eL lstO (aCons (eCall 2 d__law_next (aCons (eVar 0) (aCons (e2 addO (eL lenO (aCons (eVar 1) aNil)) (eC (.int 1))) aNil)) []) (aCons (eL maxO (aCons (eC (.int 0)) (aCons (e2 subO (eL lenO (aCons (eVar 1) aNil)) (eCall 2 d__law_next (aCons (eVar 0) (aCons (eC (.int 3)) aNil)) [])) aNil))) aNil))) (eCall 2 d__law_next (aCons (eVar 0) (aCons (eC (.int 2)) aNil)) [])))
    (sExpr (eM "list" appendO (eVar 2) (aCons (eSl (eCall 2 d__law_shuffled (aCons (eVar 0) (aCons (eVar 1) aNil)) []) none (some (eVar 4))) aNil)))))
    (sSeq (sIf (bT (e2 eqO (eCall 2 d__law_next (aCons (eVar 0) (aCons (eC (.int 4)) aNil)) []) (eC (.int 0)))) (sSeq (sSet 2 (e2 addO (eL lstO (aCons (eL listO (aCons (eVar 1) aNil)) aNil)) (eLc (iAny (eVar 1)) (.one 5) bYes (eLc (iAny (eVar 1)) (.one 6) (bT (e2 neO (eVar 6) (eVar 5))) (eVar 6) [6]) [5])))
    (sSet 2 (eSl (eVar 2) none (some (e2 subO (eL lenO (aCons (eVar 2) aNil)) (eCall 2 d__law_next (aCons (eVar 0) (aCons (eC (.int 2)) aNil)) [])))))) sSkip)
    (sRet (e2 addO (eVar 2) (eSl (eVar 2) none (some (eCall 2 d__law_next (aCons (eVar 0) (aCons (eC (.int 2)) aNil)) [])))))))))
def d__law_cell_at : DM := fnM 2 ((sSeq (sIf (bT (e2 ltO (eVar 1) (eL lenO (aCons (eVar 0) aNil)))) (sRet (e2 ixO (eVar 0) (eVar 1))) sSkip)
    (sRet (eC (.int 0)))))
def d__law_source : DM := fnM 3 ((sSeq (sIf (bT (e2 ltO (eVar 1) (eL lenO (aCons (eVar 0) aNil)))) (sRet (eL lstO (aCons (e2 ixO (eVar 0) (eVar 1)) (aCons (e2 ixO (eVar 0) (eVar 1)) (aCons (eC (.int 0)) aNil))))) sSkip)
    (sSeq (sSet 2 (eCall 2 d__law_mixed (aCons (eCall 2 d__law_cell_at (aCons (eVar 0) (aCons (eC (.int 0)) aNil)) []) (aCons (e2 addO (eC (.int 1000)) (eVar 1)) aNil)) []))
    (sRet (eL lstO (aCons (eVar 2) (aCons (eVar 2) (aCons (eC (.int 0)) aNil))))))))
def d_are_some : DM := fnM 3 ((sSeq (sIf (bOr (bNot (bT (eL (isiO "list") (aCons (eVar 0) (aCons (eC (.ty "list")) aNil))))) (bNot (bT (eL allO (aCons (eLc (iAny (eVar 0)) (.one 2) bYes (eAnd (eL (isiO "str") (aCons (eVar 2) (aCons (eC (.ty "str")) aNil))) (e2 inO (eVar 2) (eVar 1))) [2]) aNil))))) (sRet (eC (.bl false))) sSkip)
    (sRet (e2 eqO (e1 lenSetO (eVar 0)) (eL lenO (aCons (eVar 0) aNil))))))
def d_is_name : DM := fnM 2 ((sRet (eAnd (eL (isiO "str") (aCons (eVar 0) (aCons (eC (.ty "str")) aNil))) (eAnd (eChain leO leO (eC (.int 1)) (eL lenO (aCons (eVar 0) aNil)) (eC (.int 8))) (eL allO (aCons (eLc (iAny (eVar 0)) (.one 1) bYes (e2 inO (eVar 1) (eC (.str "abcdefghijklmnopqrstuvwxyz"))) [1]) aNil))))))
def d_check_leaves : DM := fnM 3 ((sSeq (sIf (bOr (bNot (bT (eL (isiO "list") (aCons (eVar 0) (aCons (eC (.ty "list")) aNil))))) (bNot (bT (eL allO (aCons (eLc (iAny (eVar 0)) (.one 2) bYes (eCall 1 d_is_name (aCons (eVar 2) aNil) []) [2]) aNil))))) sNever sSkip)
    (sIf (bOr (bT (e2 ltO (eL lenO (aCons (eVar 0) aNil)) (eC (.int 2)))) (bOr (bT (e2 ltO (e1 lenSetO (eVar 0)) (eL lenO (aCons (eVar 0) aNil)))) (bAnd (bT (e2 isNotO (eVar 1) (eC .non))) (bT (e2 gtO (eL lenO (aCons (eVar 0) aNil)) (eVar 1)))))) sNever sSkip)))
def d_some_of : Nat → DM
  | 0 => fun _ _ => .bad
  | n + 1 => fnM 5 ((sSeq (sIf (bT (e2 eqO (eVar 1) (eC (.int 0)))) (sRet (eL lstO (aCons (eL lstO aNil) aNil))) sSkip)
    (sSeq (sSet 2 (eL lstO aNil))
    (sSeq (sFor (iRng1 (aCons (eL lenO (aCons (eVar 0) aNil)) aNil)) (.one 3) (sSet 2 (e2 addO (eVar 2) (eLc (iAny (eCall 2 (d_some_of n) (aCons (eSl (eVar 0) (some (e2 addO (eVar 3) (eC (.int 1)))) none) (aCons (e2 subO (eVar 1) (eC (.int 1))) aNil)) [])) (.one 4) bYes (e2 addO (eL lstO (aCons (e2 ixO (eVar 0) (eVar 3)) aNil)) (eVar 4)) [4]))))
    (sRet (eVar 2))))))
def d_in_doubt : DM := fnM 9 ((sSeq (sExpr (eCall 2 d_check_leaves (aCons (eVar 0) (aCons (eC (.int 30)) aNil)) []))
    (sSeq (sIf (bOr (bNot (bT (eL (isiO "list") (aCons (eVar 1) (aCons (eC (.ty "list")) aNil))))) (bNot (bT (eL allO (aCons (eLc (iAny (eVar 1)) (.one 6) bYes (eCall 2 d_are_some (aCons (eVar 6) (aCons (eVar 0) aNil)) []) [6]) aNil))))) sNever sSkip)
    (sSeq (sSet 2 (eL sortedO (aCons (eVar 0) aNil)))
    (sSeq (sFor (iAny (eCall 2 (d_some_of 5) (aCons (eVar 2) (aCons (eC (.int 3)) aNil)) [])) (.one 3) (sSeq (sSet 4 (eLc (iAny (eVar 1)) (.one 6) bYes (eLc (iAny (eVar 3)) (.one 7) (bT (e2 inO (eVar 7) (eVar 6))) (eVar 7) [7]) [6]))
    (sSeq (sSet 5 (eLc (iAny (eCall 2 (d_some_of 5) (aCons (eVar 3) (aCons (eC (.int 2)) aNil)) [])) (.one 8) (bT (e2 inO (eVar 8) (eVar 4))) (eVar 8) [8]))
    (sIf (bOr (bT (e2 notInO (eVar 3) (eVar 4))) (bT (e2 ltO (eL lenO (aCons (eVar 5) aNil)) (eC (.int 2))))) (sRet (eVar 3)) sSkip))))
    (sRet (eC .non)))))))
def d_law : DM := fnM 14 ((sSeq (sFor (iRng1 (aCons (eL maxO (aCons (eC (.int 1)) (aCons (eL minO (aCons (eC (.int 5)) (aCons (eL lenO (aCons (eVar 0) aNil)) aNil))) aNil))) aNil)) (.one 1) (sSeq (sSet 2 (eCall 2 d__law_source (aCons (eVar 0) (aCons (eVar 1) aNil)) []))
    (sSeq (sSet 3 (e2 addO (eC (.int 2)) (eCall 2 d__law_next (aCons (eVar 2) (aCons (eC (.int 8)) aNil)) [])))
    (sSeq (sSet 4 (eSl (eCall 2 d__law_shuffled (aCons (eVar 2) (aCons (eL lstO (aCons (eC (.str "a")) (aCons (eC (.str "ab")) (aCons (eC (.str "abc")) (aCons (eC (.str "aa")) (aCons (eC (.str "b")) (aCons (eC (.str "ba")) (aCons (eC (.str "bab")) (aCons (eC (.str "c")) (aCons (eC (.str "cc")) (aCons (eC (.str "ca")) aNil))))))))))) aNil)) []) none (some (eVar 3))))
    (sSeq (sSet 5 (eSl (eC (.str "clusters")) none (some (eCall 2 d__law_next (aCons (eVar 2) (aCons (eC (.int 6)) aNil)) []))))
    (sSeq (sSet 4 (eLc (iAny (eVar 4)) (.one 12) bYes (e2 addO (eVar 5) (eVar 12)) [12]))
    (sFor (iRng1 (aCons (eC (.int 5)) aNil)) (.one 6) (sSeq (sSet 7 (eCall 2 d__law_groups (aCons (eVar 2) (aCons (eVar 4) aNil)) []))
    (sSeq (sPar 8 9 (aCons (eL reprO (aCons (eL tupO (aCons (eVar 4) (aCons (eVar 7) aNil))) aNil)) (aCons (eCall 2 d__law_doubt (aCons (eVar 4) (aCons (eVar 7) aNil)) []) aNil)))
    (sSeq (sSet 10 (eCall 2 d_in_doubt (aCons (eVar 4) (aCons (eVar 7) aNil)) []))
    (sSeq (sIf (bT (e2 neO (eVar 10) (eVar 9))) (sRet (eC (.bl false))) sSkip)
    (sSeq (sIf (bT (e2 isNotO (eVar 10) (eC .non))) (sExpr (eM "list" appendO (eVar 10) (aCons (eC (.str "a")) aNil))) sSkip)
    (sSeq (sSet 11 (eLc (iAny (e1 revO (eVar 7))) (.one 13) bYes (e1 revO (eVar 13)) [13]))
    (sIf (bOr (bT (e2 neO (eCall 2 d_in_doubt (aCons (e1 revO (eVar 4)) (aCons (eVar 11) aNil)) []) (eVar 9))) (bT (e2 neO (eL reprO (aCons (eL tupO (aCons (eVar 4) (aCons (eVar 7) aNil))) aNil)) (eVar 8)))) (sRet (eC (.bl false))) sSkip))))))))))))))
    (sRet (eC (.bl true)))))
structure Txt (K : PySem.W.Frag) (mg : Str → Option Value) : Type where
  f__law_choices : Addr
  fd__law_choices : FuncData
  F__law_choices : FunD K "_law_choices" "_law_choices" (defArgs s__law_choices) (defBody s__law_choices) (defScope s__law_choices) [] [] f__law_choices fd__law_choices
  g__law_choices : mg "_law_choices" = some (.ref f__law_choices)
  b__law_choices : L2.Binds K fd__law_choices p__law_choices []
  f__law_doubt : Addr
  fd__law_doubt : FuncData
  F__law_doubt : FunD K "_law_doubt" "_law_doubt" (defArgs s__law_doubt) (defBody s__law_doubt) (defScope s__law_doubt) [] [] f__law_doubt fd__law_doubt
  g__law_doubt : mg "_law_doubt" = some (.ref f__law_doubt)
  b__law_doubt : L2.Binds K fd__law_doubt p__law_doubt []
  f__law_mixed : Addr
  fd__law_mixed : FuncData
  F__law_mixed : FunD K "_law_mixed" "_law_mixed" (defArgs s__law_mixed) (defBody s__law_mixed) (defScope s__law_mixed) [] [] f__law_mixed fd__law_mixed
  g__law_mixed : mg "_law_mixed" = some (.ref f__law_mixed)
  b__law_mixed : L2.Binds K fd__law_mixed p__law_mixed []
  f__law_next : Addr
  fd__law_next : FuncData
  F__law_next : FunD K "_law_next" "_law_next" (defArgs s__law_next) (defBody s__law_next) (defScope s__law_next) [] [] f__law_next fd__law_next
  g__law_next : mg "_law_next" = some (.ref f__law_next)
  b__law_next : L2.Binds K fd__law_next p__law_next []
  f__law_shuffled : Addr
  fd__law_shuffled : FuncData
  F__law_shuffled : FunD K "_law_shuffled" "_law_shuffled" (defArgs s__law_shuffled) (defBody s__law_shuffled) (defScope s__law_shuffled) [] [] f__law_shuffled fd__law_shuffled
  g__law_shuffled : mg "_law_shuffled" = some (.ref f__law_shuffled)
  b__law_shuffled : L2.Binds K fd__law_shuffled p__law_shuffled []
  f__law_groups : Addr
  fd__law_groups : FuncData
  F__law_groups : FunD K "_law_groups" "_law_groups" (defArgs s__law_groups) (defBody s__law_groups) (defScope s__law_groups) [] [] f__law_groups fd__law_groups
  g__law_groups : mg "_law_groups" = some (.ref f__law_groups)
  b__law_groups : L2.Binds K fd__law_groups p__law_groups []
  f__law_cell_at : Addr
  fd__law_cell_at : FuncData
  F__law_cell_at : FunD K "_law_cell_at" "_law_cell_at" (defArgs s__law_cell_at) (defBody s__law_cell_at) (defScope s__law_cell_at) [] [] f__law_cell_at fd__law_cell_at
  g__law_cell_at : mg "_law_cell_at" = some (.ref f__law_cell_at)
  b__law_cell_at : L2.Binds K fd__law_cell_at p__law_cell_at []
  f__law_source : Addr
  fd__law_source : FuncData
  F__law_source : FunD K "_law_source" "_law_source" (defArgs s__law_source) (defBody s__law_source) (defScope s__law_source) [] [] f__law_source fd__law_source
  g__law_source : mg "_law_source" = some (.ref f__law_source)
  b__law_source : L2.Binds K fd__law_source p__law_source []
  f_are_some : Addr
  fd_are_some : FuncData
  F_are_some : FunD K "are_some" "are_some" (defArgs s_are_some) (defBody s_are_some) (defScope s_are_some) [] [] f_are_some fd_are_some
  g_are_some : mg "are_some" = some (.ref f_are_some)
  b_are_some : L2.Binds K fd_are_some p_are_some []
  f_is_name : Addr
  fd_is_name : FuncData
  F_is_name : FunD K "is_name" "is_name" (defArgs s_is_name) (defBody s_is_name) (defScope s_is_name) [] [] f_is_name fd_is_name
  g_is_name : mg "is_name" = some (.ref f_is_name)
  b_is_name : L2.Binds K fd_is_name p_is_name []
  f_check_leaves : Addr
  fd_check_leaves : FuncData
  F_check_leaves : FunD K "check_leaves" "check_leaves" (defArgs s_check_leaves) (defBody s_check_leaves) (defScope s_check_leaves) [.non] [] f_check_leaves fd_check_leaves
  g_check_leaves : mg "check_leaves" = some (.ref f_check_leaves)
  b_check_leaves : L2.Binds K fd_check_leaves p_check_leaves []
  f_some_of : Addr
  fd_some_of : FuncData
  F_some_of : FunD K "some_of" "some_of" (defArgs s_some_of) (defBody s_some_of) (defScope s_some_of) [] [] f_some_of fd_some_of
  g_some_of : mg "some_of" = some (.ref f_some_of)
  b_some_of : L2.Binds K fd_some_of p_some_of []
  f_in_doubt : Addr
  fd_in_doubt : FuncData
  F_in_doubt : FunD K "in_doubt" "in_doubt" (defArgs s_in_doubt) (defBody s_in_doubt) (defScope s_in_doubt) [] [] f_in_doubt fd_in_doubt
  g_in_doubt : mg "in_doubt" = some (.ref f_in_doubt)
  b_in_doubt : L2.Binds K fd_in_doubt p_in_doubt []
  f_law : Addr
  fd_law : FuncData
  F_law : FunD K "law" "law" (defArgs s_law) (defBody s_law) (defScope s_law) [] [] f_law fd_law
  g_law : mg "law" = some (.ref f_law)
  b_law : L2.Binds K fd_law p_law []
  z_all : mg "all" = none
  z_int : mg "int" = none
  z_isinstance : mg "isinstance" = none
  z_len : mg "len" = none
  z_list : mg "list" = none
  z_max : mg "max" = none
  z_min : mg "min" = none
  z_range : mg "range" = none
  z_repr : mg "repr" = none
  z_set : mg "set" = none
  z_sorted : mg "sorted" = none
  z_str : mg "str" = none
  t_LETTERS : Tok
  c_LETTERS : mg "LETTERS" = some (.str "abcdefghijklmnopqrstuvwxyz" t_LETTERS)
  t_MOST_DOUBTED : Tok
  c_MOST_DOUBTED : mg "MOST_DOUBTED" = some (.int 30 t_MOST_DOUBTED)
  t_MOST_SIGNS : Tok
  c_MOST_SIGNS : mg "MOST_SIGNS" = some (.int 8 t_MOST_SIGNS)
section
variable {P : Program} {w : World} {K : PySem.W.Frag} {mg : Str → Option Value} {base : Heap}
theorem ok__law_choices (T : Txt K mg) : ∀ n : Nat, FnOk P w K mg base (L2.CX P w) (1 + n) T.f__law_choices T.fd__law_choices p__law_choices (spM (gm K) 2 (d__law_choices n))
  | 0 => fn_badD (G := gm K) rfl
  | n + 1 => by
    have ih := ok__law_choices T n
    exact fn_okD (G := gm K) (k := 1 + n) (N := n__law_choices) T.F__law_choices sc__law_choices rfl (fun cdv A outer s H E hr => by
    have hu := units_of hr
    have hu4 := units64 hr
    have nd := (sc__law_choices).nd
    have hK : (gm K).K = (gm K).K := rfl
    have hc : true = true := rfl
    have tk := takes_of (X := cxOf (L2.CX P w) P w K mg base n__law_choices "_law_choices" (defScope s__law_choices) T.f__law_choices cdv A outer s H E) (E := E) rfl rfl rfl rfl
    have po := passes_of (X := cxOf (L2.CX P w) P w K mg base n__law_choices "_law_choices" (defScope s__law_choices) T.f__law_choices cdv A outer s H E) rfl
    exact (ms_cons (ms_if (mb_cmp (op_eqO hK hu4) (me_pv (pv 1)) me_int (nomark _)) (ms_one (ms_ret (me_lst (ma_cons (me_lst ma_nil) ma_nil)))) ms_nil)
    (ms_cons (ms_set (i := 2) nd rfl (.inl rfl) (me_lst ma_nil))
    (ms_cons (ms_for (t := (.one 3)) hK po rfl (mi_range1 rfl T.z_range (ma_cons (me_callB (cr_lenO hK) rfl T.z_len (by decide +kernel) (ma_cons (me_pv (pv 0)) ma_nil)) ma_nil)) (pg_name (i := 3) nd rfl (.inr rfl)) (ms_one (ms_expr (me_bm PySem.F.plainAttrs_list PySem.F.slot_list_extend PySem.F.type_list_extend mt_extendO (me_pv (pv 2)) (ma_cons (me_lc (own := [("_law_rest", 4)]) hK rfl nd (mi_any hK (me_call (dvs := []) ih (hr.mono (by omega)) rfl T.g__law_choices T.F__law_choices.kp T.b__law_choices .nil (fun _ _ => rfl) tk (ma_cons (me_slice hK (me_pv (pv 0)) (mo_some (me_op (op_addO hK) (me_pv (pv 3)) me_int)) mo_none) (ma_cons (me_op (op_subO) (me_pv (pv 1)) me_int) ma_nil)))) (blkOk_by rfl) rfl (fun _ _ _ _ _ => (pg_name (i := 4) nd rfl (by first | exact .inl rfl | exact .inr rfl))) (fun _ _ _ _ _ => mts_nil) (fun _ _ _ _ _ => (me_op (op_addO hK) (me_lst (ma_cons (me_ix hK hu (me_pv (pv 0)) (me_pv (pv 3))) ma_nil)) (me_pv (pv 4))))) ma_nil)))))
    (ms_one (ms_ret (me_pv (pv 2))))))))
theorem ok__law_doubt (T : Txt K mg) : FnOk P w K mg base (L2.CX P w) 7 T.f__law_doubt T.fd__law_doubt p__law_doubt (spM (gm K) 2 d__law_doubt) :=
  fn_okD (G := gm K) (k := 6) (N := n__law_doubt) T.F__law_doubt sc__law_doubt rfl (fun cdv A outer s H E hr => by
    have hu := units_of hr
    have hu4 := units64 hr
    have nd := (sc__law_doubt).nd
    have hK : (gm K).K = (gm K).K := rfl
    have hc : true = true := rfl
    have tk := takes_of (X := cxOf (L2.CX P w) P w K mg base n__law_doubt "_law_doubt" (defScope s__law_doubt) T.f__law_doubt cdv A outer s H E) (E := E) rfl rfl rfl rfl
    have po := passes_of (X := cxOf (L2.CX P w) P w K mg base n__law_doubt "_law_doubt" (defScope s__law_doubt) T.f__law_doubt cdv A outer s H E) rfl
    exact (ms_cons (ms_for (t := (.one 2)) hK po rfl (mi_any hK (me_call (dvs := []) (ok__law_choices T 5) (hr.mono (by first | decide | omega)) rfl T.g__law_choices T.F__law_choices.kp T.b__law_choices .nil (fun _ _ => rfl) tk (ma_cons (me_callB (cr_sortedO) rfl T.z_sorted (by decide +kernel) (ma_cons (me_pv (pv 0)) ma_nil)) (ma_cons me_int ma_nil)))) (pg_name (i := 2) nd rfl (.inr rfl)) (ms_cons (ms_set (i := 3) nd rfl (.inr rfl) (me_lc (own := [("_law_group", 5)]) hK rfl nd (mi_any hK (me_pv (pv 1))) (blkOk_by rfl) rfl (fun _ _ _ _ _ => (pg_name (i := 5) nd rfl (by first | exact .inl rfl | exact .inr rfl))) (fun _ _ _ _ _ => mts_nil) (fun _ _ _ _ _ => (me_callB (cr_sortedO) rfl T.z_sorted (by decide +kernel) (ma_cons (me_lc (own := [("_law_leaf", 6)]) hK rfl nd (mi_any hK (me_pv (pv 2))) (blkOk_by rfl) rfl (fun _ _ _ _ _ => (pg_name (i := 6) nd rfl (by first | exact .inl rfl | exact .inr rfl))) (fun _ _ _ _ _ => (mts_one (mb_cmp (op_inO hK hu) (me_pv (pv 6)) (me_pv (pv 5)) rfl))) (fun _ _ _ _ _ => (me_pv (pv 6)))) ma_nil)))))
    (ms_cons (ms_setLc (i := 4) (own := [("_law_pair", 7)]) hK rfl nd rfl rfl (sw_true rfl rfl rfl (by decide +kernel)) (mi_any hK (me_call (dvs := []) (ok__law_choices T 5) (hr.mono (by first | decide | omega)) rfl T.g__law_choices T.F__law_choices.kp T.b__law_choices .nil (fun _ _ => rfl) tk (ma_cons (me_pv (pv 2)) (ma_cons me_int ma_nil)))) (blkOk_by rfl) rfl (fun _ _ _ _ _ => (pg_name (i := 7) nd rfl (by first | exact .inl rfl | exact .inr rfl))) (fun _ _ _ _ _ => (mts_one (mb_cmp (op_inO hK hu) (me_pv (pv 7)) (me_pv (pv 3)) rfl))) (fun _ _ _ _ _ => (me_pv (pv 7))))
    (ms_one (ms_if (PW.pt (mw_or (mb_cmp (op_notInO hK hu) (me_pv (pv 2)) (me_pv (pv 3)) rfl) (mw_or1 (mb_cmp (op_ltO) (me_callB (cr_lenO hK) rfl T.z_len (by decide +kernel) (ma_cons (me_pv (pv 4)) ma_nil)) me_int (nomark _))))) (ms_one (ms_ret (me_pv (pv 2)))) ms_nil)))))
    (ms_one (ms_ret me_non))))
theorem ok__law_mixed (T : Txt K mg) : FnOk P w K mg base (L2.CX P w) 1 T.f__law_mixed T.fd__law_mixed p__law_mixed (spM (gm K) 2 d__law_mixed) :=
  fn_okD (G := gm K) (k := 0) (N := n__law_mixed) T.F__law_mixed sc__law_mixed rfl (fun cdv A outer s H E hr => by
    have hu := units_of hr
    have hu4 := units64 hr
    have nd := (sc__law_mixed).nd
    have hK : (gm K).K = (gm K).K := rfl
    have hc : true = true := rfl
    have tk := takes_of (X := cxOf (L2.CX P w) P w K mg base n__law_mixed "_law_mixed" (defScope s__law_mixed) T.f__law_mixed cdv A outer s H E) (E := E) rfl rfl rfl rfl
    have po := passes_of (X := cxOf (L2.CX P w) P w K mg base n__law_mixed "_law_mixed" (defScope s__law_mixed) T.f__law_mixed cdv A outer s H E) rfl
    exact (ms_cons (ms_set (i := 2) nd rfl (.inl rfl) (me_op (op_addO hK) (me_op (op_modO) (me_callTy (cr_intO) rfl T.z_int (by decide +kernel) (ma_cons (me_pv (pv 0)) ma_nil)) me_int) (me_op (op_mulO) (me_op (op_fdivO) (me_pv (pv 0)) me_int) me_int)))
    (ms_cons (ms_set (i := 2) nd rfl (.inl rfl) (me_op (op_modO) (me_callTy (cr_intO) rfl T.z_int (by decide +kernel) (ma_cons (me_op (op_mulO) (me_op (op_addO hK) (me_op (op_addO hK) (me_pv (pv 2)) (me_op (op_mulO) me_int (me_pv (pv 1)))) me_int) me_int) ma_nil)) me_int))
    (ms_cons (ms_set (i := 2) nd rfl (.inl rfl) (me_op (op_modO) (me_callTy (cr_intO) rfl T.z_int (by decide +kernel) (ma_cons (me_op (op_mulO) (me_pv (pv 2)) (me_op (op_addO hK) (me_op (op_addO hK) (me_op (op_fdivO) (me_pv (pv 2)) me_int) me_int) (me_pv (pv 1)))) ma_nil)) me_int))
    (ms_one (ms_ret (me_op (op_modO) (me_callTy (cr_intO) rfl T.z_int (by decide +kernel) (ma_cons (me_op (op_mulO) (me_pv (pv 2)) (me_op (op_addO hK) (me_op (op_fdivO) (me_pv (pv 2)) me_int) me_int)) ma_nil)) me_int)))))))
theorem ok__law_next (T : Txt K mg) : FnOk P w K mg base (L2.CX P w) 2 T.f__law_next T.fd__law_next p__law_next (spM (gm K) 2 d__law_next) :=
  fn_okD (G := gm K) (k := 1) (N := n__law_next) T.F__law_next sc__law_next rfl (fun cdv A outer s H E hr => by
    have hu := units_of hr
    have hu4 := units64 hr
    have nd := (sc__law_next).nd
    have hK : (gm K).K = (gm K).K := rfl
    have hc : true = true := rfl
    have tk := takes_of (X := cxOf (L2.CX P w) P w K mg base n__law_next "_law_next" (defScope s__law_next) T.f__law_next cdv A outer s H E) (E := E) rfl rfl rfl rfl
    have po := passes_of (X := cxOf (L2.CX P w) P w K mg base n__law_next "_law_next" (defScope s__law_next) T.f__law_next cdv A outer s H E) rfl
    exact (ms_cons (ms_if (mb_cmp (op_geO) (me_ix hK hu (me_pv (pv 0)) me_int) (me_op (op_powO) me_int me_int) (nomark _)) (ms_cons (ms_set (i := 2) nd rfl (.inl rfl) (me_op (op_modO) (me_callTy (cr_intO) rfl T.z_int (by decide +kernel) (ma_cons (me_ix hK hu (me_pv (pv 0)) me_int) ma_nil)) (me_pv (pv 1))))
    (ms_cons (ms_sub hu (me_pv (pv 0)) me_int (me_op (op_fdivO) (me_ix hK hu (me_pv (pv 0)) me_int) (me_pv (pv 1))))
    (ms_one (ms_ret (me_pv (pv 2)))))) ms_nil)
    (ms_cons (ms_sub hu (me_pv (pv 0)) me_int (me_op (op_addO hK) (me_ix hK hu (me_pv (pv 0)) me_int) me_int))
    (ms_one (ms_ret (me_op (op_modO) (me_callTy (cr_intO) rfl T.z_int (by decide +kernel) (ma_cons (me_call (dvs := []) (ok__law_mixed T) (hr.mono (by first | decide | omega)) rfl T.g__law_mixed T.F__law_mixed.kp T.b__law_mixed .nil (fun _ _ => rfl) tk (ma_cons (me_ix hK hu (me_pv (pv 0)) me_int) (ma_cons (me_ix hK hu (me_pv (pv 0)) me_int) ma_nil))) ma_nil)) (me_pv (pv 1))))))))
theorem ok__law_shuffled (T : Txt K mg) : FnOk P w K mg base (L2.CX P w) 3 T.f__law_shuffled T.fd__law_shuffled p__law_shuffled (spM (gm K) 2 d__law_shuffled) :=
  fn_okD (G := gm K) (k := 2) (N := n__law_shuffled) T.F__law_shuffled sc__law_shuffled rfl (fun cdv A outer s H E hr => by
    have hu := units_of hr
    have hu4 := units64 hr
    have nd := (sc__law_shuffled).nd
    have hK : (gm K).K = (gm K).K := rfl
    have hc : true = true := rfl
    have tk := takes_of (X := cxOf (L2.CX P w) P w K mg base n__law_shuffled "_law_shuffled" (defScope s__law_shuffled) T.f__law_shuffled cdv A outer s H E) (E := E) rfl rfl rfl rfl
    have po := passes_of (X := cxOf (L2.CX P w) P w K mg base n__law_shuffled "_law_shuffled" (defScope s__law_shuffled) T.f__law_shuffled cdv A outer s H E) rfl
    exact (ms_cons (ms_par (i := 2) (j := 3) rfl nd rfl rfl (by decide) rfl rfl (ma_cons (me_callTy (cr_listO hK) rfl T.z_list (by decide +kernel) (ma_cons (me_pv (pv 1)) ma_nil)) (ma_cons (me_lst ma_nil) ma_nil)) rfl)
    (ms_cons (ms_while po (mb_cmp (op_neO hK hu4) (me_pv (pv 2)) (me_lst ma_nil) (nomark _)) (ms_one (ms_expr (me_bm PySem.F.plainAttrs_list PySem.F.slot_list_append PySem.F.type_list_append mt_appendO (me_pv (pv 3)) (ma_cons (me_bm PySem.F.plainAttrs_list PySem.F.slot_list_pop PySem.F.type_list_pop mt_popO (me_pv (pv 2)) (ma_cons (me_call (dvs := []) (ok__law_next T) (hr.mono (by first | decide | omega)) rfl T.g__law_next T.F__law_next.kp T.b__law_next .nil (fun _ _ => rfl) tk (ma_cons (me_pv (pv 0)) (ma_cons (me_callB (cr_lenO hK) rfl T.z_len (by decide +kernel) (ma_cons (me_pv (pv 2)) ma_nil)) ma_nil))) ma_nil)) ma_nil)))))
    (ms_one (ms_ret (me_pv (pv 3)))))))
theorem ok__law_groups (T : Txt K mg) : FnOk P w K mg base (L2.CX P w) 4 T.f__law_groups T.fd__law_groups p__law_groups (spM (gm K) 2 d__law_groups) :=
  fn_okD (G := gm K) (k := 3) (N := n__law_groups) T.F__law_groups sc__law_groups rfl (fun cdv A outer s H E hr => by
    have hu := units_of hr
    have hu4 := units64 hr
    have nd := (sc__law_groups).nd
    have hK : (gm K).K = (gm K).K := rfl
    have hc : true = true := rfl
    have tk := takes_of (X := cxOf (L2.CX P w) P w K mg base n__law_groups "_law_groups" (defScope s__law_groups) T.f__law_groups cdv A outer s H E) (E := E) rfl rfl rfl rfl
    have po := passes_of (X := cxOf (L2.CX P w) P w K mg base n__law_groups "_law_groups" (defScope s__law_groups) T.f__law_groups cdv A outer s H E) rfl
    exact (ms_cons (ms_set (i := 2) nd rfl (.inl rfl) (me_lst ma_nil))
    (ms_cons (ms_for (t := (.one 3)) hK po rfl (mi_range1 rfl T.z_range (ma_cons (me_call (dvs := []) (ok__law_next T) (hr.mono (by first | decide | omega)) rfl T.g__law_next T.F__law_next.kp T.b__law_next .nil (fun _ _ => rfl) tk (ma_cons (me_pv (pv 0)) (ma_cons me_int ma_nil))) ma_nil)) (pg_name (i := 3) nd rfl (.inl rfl)) (ms_cons (ms_set (i := 4) nd rfl (.inl rfl) (me_ix hK hu (me_lst (ma_cons (me_call (dvs := []) (ok__law_next T) (hr.mono (by first | decide | omega)) rfl T.g__law_next T.F__law_next.kp T.b__law_next .nil (fun _ _ => rfl) tk (ma_cons (me_pv (pv 0)) (ma_cons (me_op (op_addO hK) (me_callB (cr_lenO hK) rfl T.z_len (by decide +kernel) (ma_cons (me_pv (pv 1)) ma_nil)) me_int) ma_nil))) (ma_cons (me_callB (cr_maxO hc) rfl T.z_max (by decide +kernel) (ma_cons me_int (ma_cons (me_op (op_subO) (me_callB (cr_lenO hK) rfl T.z_len (by decide +kernel) (ma_cons (me_pv (pv 1)) ma_nil)) (me_call (dvs := []) (ok__law_next T) (hr.mono (by first | decide | omega)) rfl T.g__law_next T.F__law_next.kp T.b__law_next .nil (fun _ _ => rfl) tk (ma_cons (me_pv (pv 0)) (ma_cons me_int ma_nil)))) ma_nil))) ma_nil))) (me_call (dvs := []) (ok__law_next T) (hr.mono (by first | decide | omega)) rfl T.g__law_next T.F__law_next.kp T.b__law_next .nil (fun _ _ => rfl) tk (ma_cons (me_pv (pv 0)) (ma_cons me_int ma_nil)))))
    (ms_one (ms_expr (me_bm PySem.F.plainAttrs_list PySem.F.slot_list_append PySem.F.type_list_append mt_appendO (me_pv (pv 2)) (ma_cons (me_slice hK (me_call (dvs := []) (ok__law_shuffled T) (hr.mono (by first | decide | omega)) rfl T.g__law_shuffled T.F__law_shuffled.kp T.b__law_shuffled .nil (fun _ _ => rfl) tk (ma_cons (me_pv (pv 0)) (ma_cons (me_pv (pv 1)) ma_nil))) mo_none (mo_some (me_pv (pv 4)))) ma_nil))))))
    (ms_cons (ms_if (mb_cmp (op_eqO hK hu4) (me_call (dvs := []) (ok__law_next T) (hr.mono (by first | decide | omega)) rfl T.g__law_next T.F__law_next.kp T.b__law_next .nil (fun _ _ => rfl) tk (ma_cons (me_pv (pv 0)) (ma_cons me_int ma_nil))) me_int (nomark _)) (ms_cons (ms_set (i := 2) nd rfl (.inl rfl) (me_op (op_addO hK) (me_lst (ma_cons (me_callTy (cr_listO hK) rfl T.z_list (by decide +kernel) (ma_cons (me_pv (pv 1)) ma_nil)) ma_nil)) (me_lc (own := [("_law_one", 5)]) hK rfl nd (mi_any hK (me_pv (pv 1))) (blkOk_by rfl) rfl (fun _ _ _ _ _ => (pg_name (i := 5) nd rfl (by first | exact .inl rfl | exact .inr rfl))) (fun _ _ _ _ _ => mts_nil) (fun _ _ _ _ _ => (me_lc (own := [("_law_name", 6)]) hK rfl nd (mi_any hK (me_pv (pv 1))) (blkOk_by rfl) rfl (fun _ _ _ _ _ => (pg_name (i := 6) nd rfl (by first | exact .inl rfl | exact .inr rfl))) (fun _ _ _ _ _ => (mts_one (mb_cmp (op_neO hK hu4) (me_pv (pv 6)) (me_pv (pv 5)) (nomark _)))) (fun _ _ _ _ _ => (me_pv (pv 6))))))))
    (ms_one (ms_set (i := 2) nd rfl (.inl rfl) (me_slice hK (me_pv (pv 2)) mo_none (mo_some (me_op (op_subO) (me_callB (cr_lenO hK) rfl T.z_len (by decide +kernel) (ma_cons (me_pv (pv 2)) ma_nil)) (me_call (dvs := []) (ok__law_next T) (hr.mono (by first | decide | omega)) rfl T.g__law_next T.F__law_next.kp T.b__law_next .nil (fun _ _ => rfl) tk (ma_cons (me_pv (pv 0)) (ma_cons me_int ma_nil))))))))) ms_nil)
    (ms_one (ms_ret (me_op (op_addO hK) (me_pv (pv 2)) (me_slice hK (me_pv (pv 2)) mo_none (mo_some (me_call (dvs := []) (ok__law_next T) (hr.mono (by first | decide | omega)) rfl T.g__law_next T.F__law_next.kp T.b__law_next .nil (fun _ _ => rfl) tk (ma_cons (me_pv (pv 0)) (ma_cons me_int ma_nil))))))))))))
theorem ok__law_cell_at (T : Txt K mg) : FnOk P w K mg base (L2.CX P w) 1 T.f__law_cell_at T.fd__law_cell_at p__law_cell_at (spM (gm K) 2 d__law_cell_at) :=
  fn_okD (G := gm K) (k := 0) (N := n__law_cell_at) T.F__law_cell_at sc__law_cell_at rfl (fun cdv A outer s H E hr => by
    have hu := units_of hr
    have hu4 := units64 hr
    have nd := (sc__law_cell_at).nd
    have hK : (gm K).K = (gm K).K := rfl
    have hc : true = true := rfl
    have tk := takes_of (X := cxOf (L2.CX P w) P w K mg base n__law_cell_at "_law_cell_at" (defScope s__law_cell_at) T.f__law_cell_at cdv A outer s H E) (E := E) rfl rfl rfl rfl
    have po := passes_of (X := cxOf (L2.CX P w) P w K mg base n__law_cell_at "_law_cell_at" (defScope s__law_cell_at) T.f__law_cell_at cdv A outer s H E) rfl
    exact (ms_cons (ms_if (mb_cmp (op_ltO) (me_pv (pv 1)) (me_callB (cr_lenO hK) rfl T.z_len (by decide +kernel) (ma_cons (me_pv (pv 0)) ma_nil)) (nomark _)) (ms_one (ms_ret (me_ix hK hu (me_pv (pv 0)) (me_pv (pv 1))))) ms_nil)
    (ms_one (ms_ret me_int))))
theorem ok__law_source (T : Txt K mg) : FnOk P w K mg base (L2.CX P w) 2 T.f__law_source T.fd__law_source p__law_source (spM (gm K) 2 d__law_source) :=
  fn_okD (G := gm K) (k := 1) (N := n__law_source) T.F__law_source sc__law_source rfl (fun cdv A outer s H E hr => by
    have hu := units_of hr
    have hu4 := units64 hr
    have nd := (sc__law_source).nd
    have hK : (gm K).K = (gm K).K := rfl
    have hc : true = true := rfl
    have tk := takes_of (X := cxOf (L2.CX P w) P w K mg base n__law_source "_law_source" (defScope s__law_source) T.f__law_source cdv A outer s H E) (E := E) rfl rfl rfl rfl
    have po := passes_of (X := cxOf (L2.CX P w) P w K mg base n__law_source "_law_source" (defScope s__law_source) T.f__law_source cdv A outer s H E) rfl
    exact (ms_cons (ms_if (mb_cmp (op_ltO) (me_pv (pv 1)) (me_callB (cr_lenO hK) rfl T.z_len (by decide +kernel) (ma_cons (me_pv (pv 0)) ma_nil)) (nomark _)) (ms_one (ms_ret (me_lst (ma_cons (me_ix hK hu (me_pv (pv 0)) (me_pv (pv 1))) (ma_cons (me_ix hK hu (me_pv (pv 0)) (me_pv (pv 1))) (ma_cons me_int ma_nil)))))) ms_nil)
    (ms_cons (ms_set (i := 2) nd rfl (.inl rfl) (me_call (dvs := []) (ok__law_mixed T) (hr.mono (by first | decide | omega)) rfl T.g__law_mixed T.F__law_mixed.kp T.b__law_mixed .nil (fun _ _ => rfl) tk (ma_cons (me_call (dvs := []) (ok__law_cell_at T) (hr.mono (by first | decide | omega)) rfl T.g__law_cell_at T.F__law_cell_at.kp T.b__law_cell_at .nil (fun _ _ => rfl) tk (ma_cons (me_pv (pv 0)) (ma_cons me_int ma_nil))) (ma_cons (me_op (op_addO hK) me_int (me_pv (pv 1))) ma_nil))))
    (ms_one (ms_ret (me_lst (ma_cons (me_pv (pv 2)) (ma_cons (me_pv (pv 2)) (ma_cons me_int ma_nil)))))))))
theorem ok_are_some (T : Txt K mg) : FnOk P w K mg base (L2.CX P w) 1 T.f_are_some T.fd_are_some p_are_some (spM (gm K) 2 d_are_some) :=
  fn_okD (G := gm K) (k := 0) (N := n_are_some) T.F_are_some sc_are_some rfl (fun cdv A outer s H E hr => by
    have hu := units_of hr
    have hu4 := units64 hr
    have nd := (sc_are_some).nd
    have hK : (gm K).K = (gm K).K := rfl
    have hc : true = true := rfl
    have tk := takes_of (X := cxOf (L2.CX P w) P w K mg base n_are_some "are_some" (defScope s_are_some) T.f_are_some cdv A outer s H E) (E := E) rfl rfl rfl rfl
    have po := passes_of (X := cxOf (L2.CX P w) P w K mg base n_are_some "are_some" (defScope s_are_some) T.f_are_some cdv A outer s H E) rfl
    exact (ms_cons (ms_if (PW.pt (mw_or (mb_not (mb_of (me_callB (cr_isiO (T := "list") hK (by decide)) rfl T.z_isinstance (by decide +kernel) (ma_cons (me_pv (pv 0)) (ma_cons (me_const (u := .ty "list") (pe_bltn rfl T.z_list (by decide +kernel) rfl) fun _ _ => rfl) ma_nil))))) (mw_or1 (mb_not (mb_of (me_callB (cr_allO hK hc) rfl T.z_all (by decide +kernel) (ma_cons (me_lc (own := [("leaf", 2)]) hK rfl nd (mi_any hK (me_pv (pv 0))) (blkOk_by rfl) rfl (fun _ _ _ _ _ => (pg_name (i := 2) nd rfl (by first | exact .inl rfl | exact .inr rfl))) (fun _ _ _ _ _ => mts_nil) (fun _ _ _ _ _ => (me_and (me_callB (cr_isiO (T := "str") hK (by decide)) rfl T.z_isinstance (by decide +kernel) (ma_cons (me_pv (pv 2)) (ma_cons (me_const (u := .ty "str") (pe_bltn rfl T.z_str (by decide +kernel) rfl) fun _ _ => rfl) ma_nil))) (me_one (me_cmp (op_inO hK hu) (me_pv (pv 2)) (me_pv (pv 1)) rfl))))) ma_nil))))))) (ms_one (ms_ret me_bl)) ms_nil)
    (ms_one (ms_ret (me_cmp (op_eqO hK hu4) (me_lenSet hK hc rfl T.z_len rfl T.z_set (me_pv (pv 0))) (me_callB (cr_lenO hK) rfl T.z_len (by decide +kernel) (ma_cons (me_pv (pv 0)) ma_nil)) (nomark _))))))
theorem ok_is_name (T : Txt K mg) : FnOk P w K mg base (L2.CX P w) 1 T.f_is_name T.fd_is_name p_is_name (spM (gm K) 1 d_is_name) :=
  fn_okD (G := gm K) (k := 0) (N := n_is_name) T.F_is_name sc_is_name rfl (fun cdv A outer s H E hr => by
    have hu := units_of hr
    have hu4 := units64 hr
    have nd := (sc_is_name).nd
    have hK : (gm K).K = (gm K).K := rfl
    have hc : true = true := rfl
    have tk := takes_of (X := cxOf (L2.CX P w) P w K mg base n_is_name "is_name" (defScope s_is_name) T.f_is_name cdv A outer s H E) (E := E) rfl rfl rfl rfl
    have po := passes_of (X := cxOf (L2.CX P w) P w K mg base n_is_name "is_name" (defScope s_is_name) T.f_is_name cdv A outer s H E) rfl
    exact (ms_one (ms_ret (me_and (me_callB (cr_isiO (T := "str") hK (by decide)) rfl T.z_isinstance (by decide +kernel) (ma_cons (me_pv (pv 0)) (ma_cons (me_const (u := .ty "str") (pe_bltn rfl T.z_str (by decide +kernel) rfl) fun _ _ => rfl) ma_nil))) (me_and (me_chain (op_leO) (op_leO) me_int (me_callB (cr_lenO hK) rfl T.z_len (by decide +kernel) (ma_cons (me_pv (pv 0)) ma_nil)) (me_const (u := .int 8) (pe_glob rfl T.c_MOST_SIGNS ⟨_, rfl⟩) fun _ _ => rfl)) (me_one (me_callB (cr_allO hK hc) rfl T.z_all (by decide +kernel) (ma_cons (me_lc (own := [("sign", 1)]) hK rfl nd (mi_any hK (me_pv (pv 0))) (blkOk_by rfl) rfl (fun _ _ _ _ _ => (pg_name (i := 1) nd rfl (by first | exact .inl rfl | exact .inr rfl))) (fun _ _ _ _ _ => mts_nil) (fun _ _ _ _ _ => (me_cmp (op_inO hK hu) (me_pv (pv 1)) (me_const (u := .str "abcdefghijklmnopqrstuvwxyz") (pe_glob rfl T.c_LETTERS ⟨_, rfl⟩) fun _ _ => rfl) rfl))) ma_nil))))))))
theorem ok_check_leaves (T : Txt K mg) : FnOk P w K mg base (L2.CX P w) 2 T.f_check_leaves T.fd_check_leaves p_check_leaves (spM (gm K) 2 d_check_leaves) :=
  fn_okD (G := gm K) (k := 1) (N := n_check_leaves) T.F_check_leaves sc_check_leaves rfl (fun cdv A outer s H E hr => by
    have hu := units_of hr
    have hu4 := units64 hr
    have nd := (sc_check_leaves).nd
    have hK : (gm K).K = (gm K).K := rfl
    have hc : true = true := rfl
    have tk := takes_of (X := cxOf (L2.CX P w) P w K mg base n_check_leaves "check_leaves" (defScope s_check_leaves) T.f_check_leaves cdv A outer s H E) (E := E) rfl rfl rfl rfl
    have po := passes_of (X := cxOf (L2.CX P w) P w K mg base n_check_leaves "check_leaves" (defScope s_check_leaves) T.f_check_leaves cdv A outer s H E) rfl
    exact (ms_cons (ms_if (PW.pt (mw_or (mb_not (mb_of (me_callB (cr_isiO (T := "list") hK (by decide)) rfl T.z_isinstance (by decide +kernel) (ma_cons (me_pv (pv 0)) (ma_cons (me_const (u := .ty "list") (pe_bltn rfl T.z_list (by decide +kernel) rfl) fun _ _ => rfl) ma_nil))))) (mw_or1 (mb_not (mb_of (me_callB (cr_allO hK hc) rfl T.z_all (by decide +kernel) (ma_cons (me_lc (own := [("leaf", 2)]) hK rfl nd (mi_any hK (me_pv (pv 0))) (blkOk_by rfl) rfl (fun _ _ _ _ _ => (pg_name (i := 2) nd rfl (by first | exact .inl rfl | exact .inr rfl))) (fun _ _ _ _ _ => mts_nil) (fun _ _ _ _ _ => (me_call (dvs := []) (ok_is_name T) (hr.mono (by first | decide | omega)) rfl T.g_is_name T.F_is_name.kp T.b_is_name .nil (fun _ _ => rfl) takes0 (ma_cons (me_pv (pv 2)) ma_nil)))) ma_nil))))))) (ms_one ms_never) ms_nil)
    (ms_one (ms_if (PW.pt (mw_or (mb_cmp (op_ltO) (me_callB (cr_lenO hK) rfl T.z_len (by decide +kernel) (ma_cons (me_pv (pv 0)) ma_nil)) me_int (nomark _)) (mw_or (mb_cmp (op_ltO) (me_lenSet hK hc rfl T.z_len rfl T.z_set (me_pv (pv 0))) (me_callB (cr_lenO hK) rfl T.z_len (by decide +kernel) (ma_cons (me_pv (pv 0)) ma_nil)) (nomark _)) (mw_or1 (PW.pt (mw_and (mb_cmp (op_isNotO) (me_pv (pv 1)) me_non (nomark _)) (mw_and1 (mb_cmp (op_gtO) (me_callB (cr_lenO hK) rfl T.z_len (by decide +kernel) (ma_cons (me_pv (pv 0)) ma_nil)) (me_pv (pv 1)) (nomark _))))))))) (ms_one ms_never) ms_nil))))
theorem ok_some_of (T : Txt K mg) : ∀ n : Nat, FnOk P w K mg base (L2.CX P w) (1 + n) T.f_some_of T.fd_some_of p_some_of (spM (gm K) 2 (d_some_of n))
  | 0 => fn_badD (G := gm K) rfl
  | n + 1 => by
    have ih := ok_some_of T n
    exact fn_okD (G := gm K) (k := 1 + n) (N := n_some_of) T.F_some_of sc_some_of rfl (fun cdv A outer s H E hr => by
    have hu := units_of hr
    have hu4 := units64 hr
    have nd := (sc_some_of).nd
    have hK : (gm K).K = (gm K).K := rfl
    have hc : true = true := rfl
    have tk := takes_of (X := cxOf (L2.CX P w) P w K mg base n_some_of "some_of" (defScope s_some_of) T.f_some_of cdv A outer s H E) (E := E) rfl rfl rfl rfl
    have po := passes_of (X := cxOf (L2.CX P w) P w K mg base n_some_of "some_of" (defScope s_some_of) T.f_some_of cdv A outer s H E) rfl
    exact (ms_cons (ms_if (mb_cmp (op_eqO hK hu4) (me_pv (pv 1)) me_int (nomark _)) (ms_one (ms_ret (me_lst (ma_cons (me_lst ma_nil) ma_nil)))) ms_nil)
    (ms_cons (ms_set (i := 2) nd rfl (.inl rfl) (me_lst ma_nil))
    (ms_cons (ms_for (t := (.one 3)) hK po rfl (mi_range1 rfl T.z_range (ma_cons (me_callB (cr_lenO hK) rfl T.z_len (by decide +kernel) (ma_cons (me_pv (pv 0)) ma_nil)) ma_nil)) (pg_name (i := 3) nd rfl (.inr rfl)) (ms_one (ms_set (i := 2) nd rfl (.inl rfl) (me_op (op_addO hK) (me_pv (pv 2)) (me_lc (own := [("rest", 4)]) hK rfl nd (mi_any hK (me_call (dvs := []) ih (hr.mono (by omega)) rfl T.g_some_of T.F_some_of.kp T.b_some_of .nil (fun _ _ => rfl) tk (ma_cons (me_slice hK (me_pv (pv 0)) (mo_some (me_op (op_addO hK) (me_pv (pv 3)) me_int)) mo_none) (ma_cons (me_op (op_subO) (me_pv (pv 1)) me_int) ma_nil)))) (blkOk_by rfl) rfl (fun _ _ _ _ _ => (pg_name (i := 4) nd rfl (by first | exact .inl rfl | exact .inr rfl))) (fun _ _ _ _ _ => mts_nil) (fun _ _ _ _ _ => (me_op (op_addO hK) (me_lst (ma_cons (me_ix hK hu (me_pv (pv 0)) (me_pv (pv 3))) ma_nil)) (me_pv (pv 4)))))))))
    (ms_one (ms_ret (me_pv (pv 2))))))))
theorem ok_in_doubt (T : Txt K mg) : FnOk P w K mg base (L2.CX P w) 7 T.f_in_doubt T.fd_in_doubt p_in_doubt (spM (gm K) 2 d_in_doubt) :=
  fn_okD (G := gm K) (k := 6) (N := n_in_doubt) T.F_in_doubt sc_in_doubt rfl (fun cdv A outer s H E hr => by
    have hu := units_of hr
    have hu4 := units64 hr
    have nd := (sc_in_doubt).nd
    have hK : (gm K).K = (gm K).K := rfl
    have hc : true = true := rfl
    have tk := takes_of (X := cxOf (L2.CX P w) P w K mg base n_in_doubt "in_doubt" (defScope s_in_doubt) T.f_in_doubt cdv A outer s H E) (E := E) rfl rfl rfl rfl
    have po := passes_of (X := cxOf (L2.CX P w) P w K mg base n_in_doubt "in_doubt" (defScope s_in_doubt) T.f_in_doubt cdv A outer s H E) rfl
    exact (ms_cons (ms_expr (me_call (dvs := []) (ok_check_leaves T) (hr.mono (by first | decide | omega)) rfl T.g_check_leaves T.F_check_leaves.kp T.b_check_leaves .nil (fun _ _ => rfl) tk (ma_cons (me_pv (pv 0)) (ma_cons (me_const (u := .int 30) (pe_glob rfl T.c_MOST_DOUBTED ⟨_, rfl⟩) fun _ _ => rfl) ma_nil))))
    (ms_cons (ms_if (PW.pt (mw_or (mb_not (mb_of (me_callB (cr_isiO (T := "list") hK (by decide)) rfl T.z_isinstance (by decide +kernel) (ma_cons (me_pv (pv 1)) (ma_cons (me_const (u := .ty "list") (pe_bltn rfl T.z_list (by decide +kernel) rfl) fun _ _ => rfl) ma_nil))))) (mw_or1 (mb_not (mb_of (me_callB (cr_allO hK hc) rfl T.z_all (by decide +kernel) (ma_cons (me_lc (own := [("one", 6)]) hK rfl nd (mi_any hK (me_pv (pv 1))) (blkOk_by rfl) rfl (fun _ _ _ _ _ => (pg_name (i := 6) nd rfl (by first | exact .inl rfl | exact .inr rfl))) (fun _ _ _ _ _ => mts_nil) (fun _ _ _ _ _ => (me_call (dvs := []) (ok_are_some T) (hr.mono (by first | decide | omega)) rfl T.g_are_some T.F_are_some.kp T.b_are_some .nil (fun _ _ => rfl) takes0 (ma_cons (me_pv (pv 6)) (ma_cons (me_pv (pv 0)) ma_nil))))) ma_nil))))))) (ms_one ms_never) ms_nil)
    (ms_cons (ms_set (i := 2) nd rfl (.inl rfl) (me_callB (cr_sortedO) rfl T.z_sorted (by decide +kernel) (ma_cons (me_pv (pv 0)) ma_nil)))
    (ms_cons (ms_for (t := (.one 3)) hK po rfl (mi_any hK (me_call (dvs := []) (ok_some_of T 5) (hr.mono (by first | decide | omega)) rfl T.g_some_of T.F_some_of.kp T.b_some_of .nil (fun _ _ => rfl) tk (ma_cons (me_pv (pv 2)) (ma_cons me_int ma_nil)))) (pg_name (i := 3) nd rfl (.inr rfl)) (ms_cons (ms_set (i := 4) nd rfl (.inr rfl) (me_lc (own := [("one", 6)]) hK rfl nd (mi_any hK (me_pv (pv 1))) (blkOk_by rfl) rfl (fun _ _ _ _ _ => (pg_name (i := 6) nd rfl (by first | exact .inl rfl | exact .inr rfl))) (fun _ _ _ _ _ => mts_nil) (fun _ _ _ _ _ => (me_lc (own := [("leaf", 7)]) hK rfl nd (mi_any hK (me_pv (pv 3))) (blkOk_by rfl) rfl (fun _ _ _ _ _ => (pg_name (i := 7) nd rfl (by first | exact .inl rfl | exact .inr rfl))) (fun _ _ _ _ _ => (mts_one (mb_cmp (op_inO hK hu) (me_pv (pv 7)) (me_pv (pv 6)) rfl))) (fun _ _ _ _ _ => (me_pv (pv 7)))))))
    (ms_cons (ms_setLc (i := 5) (own := [("pair", 8)]) hK rfl nd rfl rfl (sw_true rfl rfl rfl (by decide +kernel)) (mi_any hK (me_call (dvs := []) (ok_some_of T 5) (hr.mono (by first | decide | omega)) rfl T.g_some_of T.F_some_of.kp T.b_some_of .nil (fun _ _ => rfl) tk (ma_cons (me_pv (pv 3)) (ma_cons me_int ma_nil)))) (blkOk_by rfl) rfl (fun _ _ _ _ _ => (pg_name (i := 8) nd rfl (by first | exact .inl rfl | exact .inr rfl))) (fun _ _ _ _ _ => (mts_one (mb_cmp (op_inO hK hu) (me_pv (pv 8)) (me_pv (pv 4)) rfl))) (fun _ _ _ _ _ => (me_pv (pv 8))))
    (ms_one (ms_if (PW.pt (mw_or (mb_cmp (op_notInO hK hu) (me_pv (pv 3)) (me_pv (pv 4)) rfl) (mw_or1 (mb_cmp (op_ltO) (me_callB (cr_lenO hK) rfl T.z_len (by decide +kernel) (ma_cons (me_pv (pv 5)) ma_nil)) me_int (nomark _))))) (ms_one (ms_ret (me_pv (pv 3)))) ms_nil)))))
    (ms_one (ms_ret me_non)))))))
theorem ok_law (T : Txt K mg) : TopOk P w K mg base T.f_law T.fd_law p_law (spM (gm K) 1 d_law) :=
  top_ok (G := gm K) (k := 7) (N := n_law) T.F_law sc_law rfl ⟨rfl, by decide, by decide⟩ (fun cdv s H E hr => by
    have hgd : (callerA.deeper (envOfC "law" (defScope s_law) s.heap.objs.size T.f_law cdv)).guards = some [] := rfl
    have hu := units_of hr
    have hu4 := units64 hr
    have nd := (sc_law).nd
    have hK : (gm K).K = (gm K).K := rfl
    have hc : true = true := rfl
    have tk := takes_of (X := cxOf (L2.CX P w) P w K mg base n_law "law" (defScope s_law) T.f_law cdv callerA [] s H E) (E := E) rfl rfl rfl rfl
    have po := passes_of (X := cxOf (L2.CX P w) P w K mg base n_law "law" (defScope s_law) T.f_law cdv callerA [] s H E) rfl
    exact (ms_cons (ms_for (t := (.one 1)) hK po rfl (mi_range1 rfl T.z_range (ma_cons (me_callB (cr_maxO hc) rfl T.z_max (by decide +kernel) (ma_cons me_int (ma_cons (me_callB (cr_minO hc) rfl T.z_min (by decide +kernel) (ma_cons me_int (ma_cons (me_callB (cr_lenO hK) rfl T.z_len (by decide +kernel) (ma_cons (me_pv (pv 0)) ma_nil)) ma_nil))) ma_nil))) ma_nil)) (pg_name (i := 1) nd rfl (.inl rfl)) (ms_cons (ms_set (i := 2) nd rfl (.inl rfl) (me_call (dvs := []) (ok__law_source T) (hr.mono (by first | decide | omega)) rfl T.g__law_source T.F__law_source.kp T.b__law_source .nil (fun _ _ => rfl) tk (ma_cons (me_pv (pv 0)) (ma_cons (me_pv (pv 1)) ma_nil))))
    (ms_cons (ms_set (i := 3) nd rfl (.inl rfl) (me_op (op_addO hK) me_int (me_call (dvs := []) (ok__law_next T) (hr.mono (by first | decide | omega)) rfl T.g__law_next T.F__law_next.kp T.b__law_next .nil (fun _ _ => rfl) tk (ma_cons (me_pv (pv 2)) (ma_cons me_int ma_nil)))))
    (ms_cons (ms_set (i := 4) nd rfl (.inl rfl) (me_slice hK (me_call (dvs := []) (ok__law_shuffled T) (hr.mono (by first | decide | omega)) rfl T.g__law_shuffled T.F__law_shuffled.kp T.b__law_shuffled .nil (fun _ _ => rfl) tk (ma_cons (me_pv (pv 2)) (ma_cons (me_lst (ma_cons me_str (ma_cons me_str (ma_cons me_str (ma_cons me_str (ma_cons me_str (ma_cons me_str (ma_cons me_str (ma_cons me_str (ma_cons me_str (ma_cons me_str ma_nil))))))))))) ma_nil))) mo_none (mo_some (me_pv (pv 3)))))
    (ms_cons (ms_set (i := 5) nd rfl (.inr rfl) (me_slice hK me_str mo_none (mo_some (me_call (dvs := []) (ok__law_next T) (hr.mono (by first | decide | omega)) rfl T.g__law_next T.F__law_next.kp T.b__law_next .nil (fun _ _ => rfl) tk (ma_cons (me_pv (pv 2)) (ma_cons me_int ma_nil))))))
    (ms_cons (ms_setLc (i := 4) (own := [("_law_name", 12)]) hK rfl nd rfl rfl (sw_true rfl rfl rfl (by decide +kernel)) (mi_any hK (me_pv (pv 4))) (blkOk_by rfl) rfl (fun _ _ _ _ _ => (pg_name (i := 12) nd rfl (by first | exact .inl rfl | exact .inr rfl))) (fun _ _ _ _ _ => mts_nil) (fun _ _ _ _ _ => (me_op (op_addO hK) (me_pv (pv 5)) (me_pv (pv 12)))))
    (ms_one (ms_for (t := (.one 6)) hK po rfl (mi_range1 rfl T.z_range (ma_cons me_int ma_nil)) (pg_name (i := 6) nd rfl (.inl rfl)) (ms_cons (ms_set (i := 7) nd rfl (.inl rfl) (me_call (dvs := []) (ok__law_groups T) (hr.mono (by first | decide | omega)) rfl T.g__law_groups T.F__law_groups.kp T.b__law_groups .nil (fun _ _ => rfl) tk (ma_cons (me_pv (pv 2)) (ma_cons (me_pv (pv 4)) ma_nil))))
    (ms_cons (ms_par (i := 8) (j := 9) rfl nd rfl rfl (by decide) rfl rfl (ma_cons (me_callB (cr_reprO hK hu4 hgd) rfl T.z_repr (by decide +kernel) (ma_cons (me_tup (ma_cons (me_pv (pv 4)) (ma_cons (me_pv (pv 7)) ma_nil))) ma_nil)) (ma_cons (me_call (dvs := []) (ok__law_doubt T) (hr.mono (by first | decide | omega)) rfl T.g__law_doubt T.F__law_doubt.kp T.b__law_doubt .nil (fun _ _ => rfl) tk (ma_cons (me_pv (pv 4)) (ma_cons (me_pv (pv 7)) ma_nil))) ma_nil)) rfl)
    (ms_cons (ms_set (i := 10) nd rfl (.inl rfl) (me_call (dvs := []) (ok_in_doubt T) (hr.mono (by first | decide | omega)) rfl T.g_in_doubt T.F_in_doubt.kp T.b_in_doubt .nil (fun _ _ => rfl) tk (ma_cons (me_pv (pv 4)) (ma_cons (me_pv (pv 7)) ma_nil))))
    (ms_cons (ms_if (mb_cmp (op_neO hK hu4) (me_pv (pv 10)) (me_pv (pv 9)) (nomark _)) (ms_one (ms_ret me_bl)) ms_nil)
    (ms_cons (ms_if (mb_cmp (op_isNotO) (me_pv (pv 10)) me_non (nomark _)) (ms_one (ms_expr (me_bm PySem.F.plainAttrs_list PySem.F.slot_list_append PySem.F.type_list_append mt_appendO (me_pv (pv 10)) (ma_cons me_str ma_nil)))) ms_nil)
    (ms_cons (ms_setLc (i := 11) (own := [("_law_group", 13)]) hK rfl nd rfl rfl (sw_true rfl rfl rfl (by decide +kernel)) (mi_any hK (me_rev hK (me_pv (pv 7)))) (blkOk_by rfl) rfl (fun _ _ _ _ _ => (pg_name (i := 13) nd rfl (by first | exact .inl rfl | exact .inr rfl))) (fun _ _ _ _ _ => mts_nil) (fun _ _ _ _ _ => (me_rev hK (me_pv (pv 13)))))
    (ms_one (ms_if (PW.pt (mw_or (mb_cmp (op_neO hK hu4) (me_call (dvs := []) (ok_in_doubt T) (hr.mono (by first | decide | omega)) rfl T.g_in_doubt T.F_in_doubt.kp T.b_in_doubt .nil (fun _ _ => rfl) tk (ma_cons (me_rev hK (me_pv (pv 4))) (ma_cons (me_pv (pv 11)) ma_nil))) (me_pv (pv 9)) (nomark _)) (mw_or1 (mb_cmp (op_neO hK hu4) (me_callB (cr_reprO hK hu4 hgd) rfl T.z_repr (by decide +kernel) (ma_cons (me_tup (ma_cons (me_pv (pv 4)) (ma_cons (me_pv (pv 7)) ma_nil))) ma_nil)) (me_pv (pv 8)) (nomark _))))) (ms_one (ms_ret me_bl)) ms_nil))))))))))))))))
    (ms_one (ms_ret me_bl))))
end
def fn : List He.DefD := [⟨("_law_choices", none), "_law_choices", "_law_choices", defArgs s__law_choices, defBody s__law_choices, defScope s__law_choices, [], []⟩,
  ⟨("_law_doubt", none), "_law_doubt", "_law_doubt", defArgs s__law_doubt, defBody s__law_doubt, defScope s__law_doubt, [], []⟩,
  ⟨("_law_mixed", none), "_law_mixed", "_law_mixed", defArgs s__law_mixed, defBody s__law_mixed, defScope s__law_mixed, [], []⟩,
  ⟨("_law_next", none), "_law_next", "_law_next", defArgs s__law_next, defBody s__law_next, defScope s__law_next, [], []⟩,
  ⟨("_law_shuffled", none), "_law_shuffled", "_law_shuffled", defArgs s__law_shuffled, defBody s__law_shuffled, defScope s__law_shuffled, [], []⟩,
  ⟨("_law_groups", none), "_law_groups", "_law_groups", defArgs s__law_groups, defBody s__law_groups, defScope s__law_groups, [], []⟩,
  ⟨("_law_cell_at", none), "_law_cell_at", "_law_cell_at", defArgs s__law_cell_at, defBody s__law_cell_at, defScope s__law_cell_at, [], []⟩,
  ⟨("_law_source", none), "_law_source", "_law_source", defArgs s__law_source, defBody s__law_source, defScope s__law_source, [], []⟩,
  ⟨("are_some", none), "are_some", "are_some", defArgs s_are_some, defBody s_are_some, defScope s_are_some, [], []⟩,
  ⟨("is_name", none), "is_name", "is_name", defArgs s_is_name, defBody s_is_name, defScope s_is_name, [], []⟩,
  ⟨("check_leaves", none), "check_leaves", "check_leaves", defArgs s_check_leaves, defBody s_check_leaves, defScope s_check_leaves, [.non], []⟩,
  ⟨("some_of", none), "some_of", "some_of", defArgs s_some_of, defBody s_some_of, defScope s_some_of, [], []⟩,
  ⟨("in_doubt", none), "in_doubt", "in_doubt", defArgs s_in_doubt, defBody s_in_doubt, defScope s_in_doubt, [], []⟩,
  ⟨("law", none), "law", "law", defArgs s_law, defBody s_law, defScope s_law, [], []⟩]
def fa : List He.Fa := [.glo "_law_choices", .glo "_law_doubt", .glo "_law_mixed", .glo "_law_next", .glo "_law_shuffled", .glo "_law_groups", .glo "_law_cell_at", .glo "_law_source", .glo "are_some", .glo "is_name", .glo "check_leaves", .glo "some_of", .glo "in_doubt", .glo "law", .free "all", .free "int", .free "isinstance", .free "len", .free "list", .free "max", .free "min", .free "range", .free "repr", .free "set", .free "sorted", .free "str", .str "LETTERS" "abcdefghijklmnopqrstuvwxyz", .int "MOST_DOUBTED" 30, .int "MOST_SIGNS" 8]
theorem mkT {K : PySem.W.Frag} {h : Heap} {mg : Str → Option Value} (X : K.In h) (G : h.Ns mainGlobals mg) (c : He.SaysD fa fn K) : ∃ T : Txt K mg, T.f_law = He.ga K "law" ∧ ∀ (s : Shared) (v : Value), BindsTo s T.fd_law ⟨[v], []⟩ [("_law_script", v)] := by
  obtain ⟨fd__law_choices, F__law_choices⟩ := c.def_ 0 rfl
  have b__law_choices : L2.Binds K fd__law_choices p__law_choices [] := FunD.bindsN F__law_choices fun _ _ _ _ _ _ us hl => match us, hl with | [_, _], _ => rfl
  obtain ⟨fd__law_doubt, F__law_doubt⟩ := c.def_ 1 rfl
  have b__law_doubt : L2.Binds K fd__law_doubt p__law_doubt [] := FunD.bindsN F__law_doubt fun _ _ _ _ _ _ us hl => match us, hl with | [_, _], _ => rfl
  obtain ⟨fd__law_mixed, F__law_mixed⟩ := c.def_ 2 rfl
  have b__law_mixed : L2.Binds K fd__law_mixed p__law_mixed [] := FunD.bindsN F__law_mixed fun _ _ _ _ _ _ us hl => match us, hl with | [_, _], _ => rfl
  obtain ⟨fd__law_next, F__law_next⟩ := c.def_ 3 rfl
  have b__law_next : L2.Binds K fd__law_next p__law_next [] := FunD.bindsN F__law_next fun _ _ _ _ _ _ us hl => match us, hl with | [_, _], _ => rfl
  obtain ⟨fd__law_shuffled, F__law_shuffled⟩ := c.def_ 4 rfl
  have b__law_shuffled : L2.Binds K fd__law_shuffled p__law_shuffled [] := FunD.bindsN F__law_shuffled fun _ _ _ _ _ _ us hl => match us, hl with | [_, _], _ => rfl
  obtain ⟨fd__law_groups, F__law_groups⟩ := c.def_ 5 rfl
  have b__law_groups : L2.Binds K fd__law_groups p__law_groups [] := FunD.bindsN F__law_groups fun _ _ _ _ _ _ us hl => match us, hl with | [_, _], _ => rfl
  obtain ⟨fd__law_cell_at, F__law_cell_at⟩ := c.def_ 6 rfl
  have b__law_cell_at : L2.Binds K fd__law_cell_at p__law_cell_at [] := FunD.bindsN F__law_cell_at fun _ _ _ _ _ _ us hl => match us, hl with | [_, _], _ => rfl
  obtain ⟨fd__law_source, F__law_source⟩ := c.def_ 7 rfl
  have b__law_source : L2.Binds K fd__law_source p__law_source [] := FunD.bindsN F__law_source fun _ _ _ _ _ _ us hl => match us, hl with | [_, _], _ => rfl
  obtain ⟨fd_are_some, F_are_some⟩ := c.def_ 8 rfl
  have b_are_some : L2.Binds K fd_are_some p_are_some [] := FunD.bindsN F_are_some fun _ _ _ _ _ _ us hl => match us, hl with | [_, _], _ => rfl
  obtain ⟨fd_is_name, F_is_name⟩ := c.def_ 9 rfl
  have b_is_name : L2.Binds K fd_is_name p_is_name [] := FunD.bindsN F_is_name fun _ _ _ _ _ _ us hl => match us, hl with | [_], _ => rfl
  obtain ⟨fd_check_leaves, F_check_leaves⟩ := c.def_ 10 rfl
  have b_check_leaves : L2.Binds K fd_check_leaves p_check_leaves [] := by
    obtain ⟨ds, v, b⟩ := FunD.binds1 (ps := p_check_leaves) F_check_leaves 2 1 (List.cons_ne_nil _ _) rfl fun _ _ _ _ _ _ _ us its h1 h2 => match us, its, h1, h2 with | [_, _], [_], _, _ => ⟨_, rfl, rfl⟩
    cases v
    exact b
  obtain ⟨fd_some_of, F_some_of⟩ := c.def_ 11 rfl
  have b_some_of : L2.Binds K fd_some_of p_some_of [] := FunD.bindsN F_some_of fun _ _ _ _ _ _ us hl => match us, hl with | [_, _], _ => rfl
  obtain ⟨fd_in_doubt, F_in_doubt⟩ := c.def_ 12 rfl
  have b_in_doubt : L2.Binds K fd_in_doubt p_in_doubt [] := FunD.bindsN F_in_doubt fun _ _ _ _ _ _ us hl => match us, hl with | [_, _], _ => rfl
  obtain ⟨fd_law, F_law⟩ := c.def_ 13 rfl
  have b_law : L2.Binds K fd_law p_law [] := FunD.bindsN F_law fun _ _ _ _ _ _ us hl => match us, hl with | [_], _ => rfl
  obtain ⟨t_LETTERS, c_LETTERS⟩ := He.str_ok X G (c.fact 26 rfl)
  obtain ⟨t_MOST_DOUBTED, c_MOST_DOUBTED⟩ := He.int_ok X G (c.fact 27 rfl)
  obtain ⟨t_MOST_SIGNS, c_MOST_SIGNS⟩ := He.int_ok X G (c.fact 28 rfl)
  refine ⟨{ f__law_choices := He.ga K "_law_choices", fd__law_choices := fd__law_choices, F__law_choices := F__law_choices, g__law_choices := He.glo_ok X G (c.fact 0 rfl), b__law_choices := b__law_choices, f__law_doubt := He.ga K "_law_doubt", fd__law_doubt := fd__law_doubt, F__law_doubt := F__law_doubt, g__law_doubt := He.glo_ok X G (c.fact 1 rfl), b__law_doubt := b__law_doubt, f__law_mixed := He.ga K "_law_mixed", fd__law_mixed := fd__law_mixed, F__law_mixed := F__law_mixed, g__law_mixed := He.glo_ok X G (c.fact 2 rfl), b__law_mixed := b__law_mixed, f__law_next := He.ga K "_law_next", fd__law_next := fd__law_next, F__law_next := F__law_next, g__law_next := He.glo_ok X G (c.fact 3 rfl), b__law_next := b__law_next, f__law_shuffled := He.ga K "_law_shuffled", fd__law_shuffled := fd__law_shuffled, F__law_shuffled := F__law_shuffled, g__law_shuffled := He.glo_ok X G (c.fact 4 rfl), b__law_shuffled := b__law_shuffled, f__law_groups := He.ga K "_law_groups", fd__law_groups := fd__law_groups, F__law_groups := F__law_groups, g__law_groups := He.glo_ok X G (c.fact 5 rfl), b__law_groups := b__law_groups, f__law_cell_at := He.ga K "_law_cell_at", fd__law_cell_at := fd__law_cell_at, F__law_cell_at := F__law_cell_at, g__law_cell_at := He.glo_ok X G (c.fact 6 rfl), b__law_cell_at := b__law_cell_at, f__law_source := He.ga K "_law_source", fd__law_source := fd__law_source, F__law_source := F__law_source, g__law_source := He.glo_ok X G (c.fact 7 rfl), b__law_source := b__law_source, f_are_some := He.ga K "are_some", fd_are_some := fd_are_some, F_are_some := F_are_some, g_are_some := He.glo_ok X G (c.fact 8 rfl), b_are_some := b_are_some, f_is_name := He.ga K "is_name", fd_is_name := fd_is_name, F_is_name := F_is_name, g_is_name := He.glo_ok X G (c.fact 9 rfl), b_is_name := b_is_name, f_check_leaves := He.ga K "check_leaves", fd_check_leaves := fd_check_leaves, F_check_leaves := F_check_leaves, g_check_leaves := He.glo_ok X G (c.fact 10 rfl), b_check_leaves := b_check_leaves, f_some_of := He.ga K "some_of", fd_some_of := fd_some_of, F_some_of := F_some_of, g_some_of := He.glo_ok X G (c.fact 11 rfl), b_some_of := b_some_of, f_in_doubt := He.ga K "in_doubt", fd_in_doubt := fd_in_doubt, F_in_doubt := F_in_doubt, g_in_doubt := He.glo_ok X G (c.fact 12 rfl), b_in_doubt := b_in_doubt, f_law := He.ga K "law", fd_law := fd_law, F_law := F_law, g_law := He.glo_ok X G (c.fact 13 rfl), b_law := b_law, z_all := He.free_ok X G (c.fact 14 rfl), z_int := He.free_ok X G (c.fact 15 rfl), z_isinstance := He.free_ok X G (c.fact 16 rfl), z_len := He.free_ok X G (c.fact 17 rfl), z_list := He.free_ok X G (c.fact 18 rfl), z_max := He.free_ok X G (c.fact 19 rfl), z_min := He.free_ok X G (c.fact 20 rfl), z_range := He.free_ok X G (c.fact 21 rfl), z_repr := He.free_ok X G (c.fact 22 rfl), z_set := He.free_ok X G (c.fact 23 rfl), z_sorted := He.free_ok X G (c.fact 24 rfl), z_str := He.free_ok X G (c.fact 25 rfl), t_LETTERS := t_LETTERS, c_LETTERS := c_LETTERS, t_MOST_DOUBTED := t_MOST_DOUBTED, c_MOST_DOUBTED := c_MOST_DOUBTED, t_MOST_SIGNS := t_MOST_SIGNS, c_MOST_SIGNS := c_MOST_SIGNS }, rfl, ?_⟩
  exact fun s v => FunD.bindsA (ps := p_law) F_law (fun _ _ _ _ _ _ us hl => match us, hl with | [_], _ => rfl) s [v] rfl
abbrev loose : List Str := ["GroupError", "NoName", "NoBusy", "MOST_SIGNS", "LETTERS", "is_name", "MOST_DOUBTED", "check_leaves", "are_some", "some_of", "in_doubt", "_law_cell_at", "_law_mixed", "_law_source", "_law_next", "_law_shuffled", "_law_choices", "_law_doubt", "_law_groups"]
abbrev R : PySem.W.OpenRow := PySem.W.OpenLaw.row PySem.Challenge.rw_busyleaves_k38_triples_in_doubt
abbrev hk : PySem.W.Hook := He.hookD 5 fa fn
def ob (s : PySem.W.SharedT) : He.AlD := He.obsDG 5 fa fn (HandSHeadRun.getT s)
theorem ob_eq (s : PySem.W.SharedT) : ob s = hk.obs s.abs := He.obsDG_eq (HandSHeadRun.getT_eq s)
theorem run (w : World) : HandSHeadRun.RunEq R (PySem.W.view R.prog [23]) hk ob 4000 loose w := by
  intro os
  kernel_rfl
end Pg
namespace Pg
open PySem PySem.Spec L2 Mi
theorem mixed_sat (c k : Int) (h : Hh) : Sat (d__law_mixed [.int c, .int k] h) (fun v h' => h' = h ∧ ∃ r, v = .int r ∧ 0 ≤ r ∧ r < 2147483563) NoX := by
  unfold d__law_mixed
  refine st_fn' (σ0 := [some (.int c), some (.int k), none]) rfl ?_
  repeat (first
    | with_reducible refine k_seq ?_ | ((with_reducible refine k_then_nx ?_); try dsimp only [put]) | with_reducible refine k_e2 ?_ | ((with_reducible refine' k_var ?e ?_); (case e => rfl)) | with_reducible refine k_const ?_
    | with_reducible refine k_set ?_ | with_reducible refine k_if ?_ | with_reducible refine k_ret ?_ | with_reducible refine k_eL ?_ | with_reducible refine k_aCons ?_ | with_reducible refine k_aNil ?_ | with_reducible refine k_bT ?_ | with_reducible refine k_onB ?_
    | with_reducible refine k_call1 ?_ | with_reducible refine k_call2 ?_ | with_reducible refine k_call3 ?_ | with_reducible refine k_expr ?_ | with_reducible refine k_for ?_ | with_reducible refine k_meth ?_ | with_reducible refine k_sub ?_ | with_reducible refine k_par ?_ | with_reducible refine k_tup ?_
    | with_reducible refine k_iAny ?_ | with_reducible refine k_iRng1 ?_ | with_reducible refine k_iRng2 ?_ | with_reducible refine k_iEnm ?_ | with_reducible refine k_then_rt ?_ | with_reducible refine k_then_bk ?_ | with_reducible refine k_then_ct ?_ | with_reducible refine k_skip ?_ | with_reducible refine k_break ?_ | with_reducible refine k_cont ?_ | with_reducible refine k_retN ?_
    | with_reducible refine k_e1 ?_ | with_reducible refine k_not ?_ | with_reducible refine k_and ?_ | with_reducible refine k_or ?_ | with_reducible refine k_ifE ?_ | with_reducible refine k_chain ?_ | with_reducible refine k_slice ?_ | with_reducible refine k_oN ?_ | with_reducible refine k_oS ?_ | with_reducible refine k_lc ?_
    | with_reducible refine k_bAnd ?_ | with_reducible refine k_bOr ?_ | with_reducible refine k_bNot ?_ | with_reducible refine k_yes ?_ | with_reducible refine k_onI ?_ | with_reducible refine k_onR ?_ | with_reducible refine k_onL1 ?_ | with_reducible refine k_onL2 ?_ | with_reducible refine k_itT ?_ | with_reducible refine k_itS ?_
    | with_reducible refine k_ends_rt ?_ | with_reducible refine k_ends_nx ?_ | with_reducible refine k_true ?_ | with_reducible refine k_false ?_ | with_reducible refine k_ntrue ?_ | with_reducible refine k_nfalse ?_
    | with_reducible refine k_addI ?_ | with_reducible refine k_subI ?_ | with_reducible refine k_intI ?_ | with_reducible refine k_ltI ?_ | with_reducible refine k_gtI ?_ | with_reducible refine k_leI ?_ | with_reducible refine k_geI ?_ | with_reducible refine k_eqI ?_ | with_reducible refine k_neI ?_ | with_reducible refine k_eqS ?_ | with_reducible refine k_neS ?_ | with_reducible refine k_negI ?_ | with_reducible refine k_notB ?_ | with_reducible refine k_maxI ?_ | with_reducible refine k_minI ?_ | with_reducible refine k_lenS ?_
    | ((with_reducible refine k_mulI ?e ?_); (case e => omega)) | ((with_reducible refine k_divI ?e ?e2 ?_); (case e => omega); (case e2 => omega)) | ((with_reducible refine k_modI ?e ?_); (case e => omega)) | ((with_reducible refine k_powI ?e ?_); (case e => decide))
    | ((with_reducible refine k_lst ?e ?_); (case e => first | decide | (simp; done) | (simp; omega))) | ((with_reducible refine k_tupD ?e ?_); (case e => first | decide | (simp; done)))
    | ((with_reducible refine' k_lenL ?e ?_); (case e => assumption)) | ((with_reducible refine' k_ixL ?e ?e2 ?_); (case e => assumption); (case e2 => first | assumption | rfl)) | ((with_reducible refine' k_ixT ?e2 ?_); (case e2 => first | assumption | rfl)) | ((with_reducible refine' k_itR ?e ?_); (case e => assumption)))
  refine ⟨rfl, _, rfl, ?_, ?_⟩ <;> omega
theorem cell_sat (ns : List Int) (k : Int) (hk : 0 ≤ k) (h : Hh) : Sat (d__law_cell_at [.scr ns, .int k] h) (fun v h' => h' = h ∧ ∃ r, v = .int r) NoX := by
  unfold d__law_cell_at
  refine st_fn' (σ0 := [some (.scr ns), some (.int k)]) rfl ?_
  repeat (first
    | with_reducible refine k_seq ?_ | ((with_reducible refine k_then_nx ?_); try dsimp only [put]) | with_reducible refine k_e2 ?_ | ((with_reducible refine' k_var ?e ?_); (case e => rfl)) | with_reducible refine k_const ?_
    | with_reducible refine k_set ?_ | with_reducible refine k_if ?_ | with_reducible refine k_ret ?_ | with_reducible refine k_eL ?_ | with_reducible refine k_aCons ?_ | with_reducible refine k_aNil ?_ | with_reducible refine k_bT ?_ | with_reducible refine k_onB ?_
    | with_reducible refine k_call1 ?_ | with_reducible refine k_call2 ?_ | with_reducible refine k_call3 ?_ | with_reducible refine k_expr ?_ | with_reducible refine k_for ?_ | with_reducible refine k_meth ?_ | with_reducible refine k_sub ?_ | with_reducible refine k_par ?_ | with_reducible refine k_tup ?_
    | with_reducible refine k_iAny ?_ | with_reducible refine k_iRng1 ?_ | with_reducible refine k_iRng2 ?_ | with_reducible refine k_iEnm ?_ | with_reducible refine k_then_rt ?_ | with_reducible refine k_then_bk ?_ | with_reducible refine k_then_ct ?_ | with_reducible refine k_skip ?_ | with_reducible refine k_break ?_ | with_reducible refine k_cont ?_ | with_reducible refine k_retN ?_
    | with_reducible refine k_e1 ?_ | with_reducible refine k_not ?_ | with_reducible refine k_and ?_ | with_reducible refine k_or ?_ | with_reducible refine k_ifE ?_ | with_reducible refine k_chain ?_ | with_reducible refine k_slice ?_ | with_reducible refine k_oN ?_ | with_reducible refine k_oS ?_ | with_reducible refine k_lc ?_
    | with_reducible refine k_bAnd ?_ | with_reducible refine k_bOr ?_ | with_reducible refine k_bNot ?_ | with_reducible refine k_yes ?_ | with_reducible refine k_onI ?_ | with_reducible refine k_onR ?_ | with_reducible refine k_onL1 ?_ | with_reducible refine k_onL2 ?_ | with_reducible refine k_itT ?_ | with_reducible refine k_itS ?_
    | with_reducible refine k_ends_rt ?_ | with_reducible refine k_ends_nx ?_ | with_reducible refine k_true ?_ | with_reducible refine k_false ?_ | with_reducible refine k_ntrue ?_ | with_reducible refine k_nfalse ?_
    | with_reducible refine k_addI ?_ | with_reducible refine k_subI ?_ | with_reducible refine k_intI ?_ | with_reducible refine k_ltI ?_ | with_reducible refine k_gtI ?_ | with_reducible refine k_leI ?_ | with_reducible refine k_geI ?_ | with_reducible refine k_eqI ?_ | with_reducible refine k_neI ?_ | with_reducible refine k_eqS ?_ | with_reducible refine k_neS ?_ | with_reducible refine k_negI ?_ | with_reducible refine k_notB ?_ | with_reducible refine k_maxI ?_ | with_reducible refine k_minI ?_ | with_reducible refine k_lenS ?_
    | ((with_reducible refine k_mulI ?e ?_); (case e => omega)) | ((with_reducible refine k_divI ?e ?e2 ?_); (case e => omega); (case e2 => omega)) | ((with_reducible refine k_modI ?e ?_); (case e => omega)) | ((with_reducible refine k_powI ?e ?_); (case e => decide))
    | ((with_reducible refine k_lst ?e ?_); (case e => first | decide | (simp; done) | (simp; omega))) | ((with_reducible refine k_tupD ?e ?_); (case e => first | decide | (simp; done)))
    | ((with_reducible refine' k_lenL ?e ?_); (case e => assumption)) | ((with_reducible refine' k_ixL ?e ?e2 ?_); (case e => assumption); (case e2 => first | assumption | rfl)) | ((with_reducible refine' k_ixT ?e2 ?_); (case e2 => first | assumption | rfl)) | ((with_reducible refine' k_itR ?e ?_); (case e => assumption)))
  refine k_dec (fun hp => ?_) fun hn => ?_
  · repeat (first
      | with_reducible refine k_seq ?_ | ((with_reducible refine k_then_nx ?_); try dsimp only [put]) | with_reducible refine k_e2 ?_ | ((with_reducible refine' k_var ?e ?_); (case e => rfl)) | with_reducible refine k_const ?_
      | with_reducible refine k_set ?_ | with_reducible refine k_if ?_ | with_reducible refine k_ret ?_ | with_reducible refine k_eL ?_ | with_reducible refine k_aCons ?_ | with_reducible refine k_aNil ?_ | with_reducible refine k_bT ?_ | with_reducible refine k_onB ?_
      | with_reducible refine k_call1 ?_ | with_reducible refine k_call2 ?_ | with_reducible refine k_call3 ?_ | with_reducible refine k_expr ?_ | with_reducible refine k_for ?_ | with_reducible refine k_meth ?_ | with_reducible refine k_sub ?_ | with_reducible refine k_par ?_ | with_reducible refine k_tup ?_
      | with_reducible refine k_iAny ?_ | with_reducible refine k_iRng1 ?_ | with_reducible refine k_iRng2 ?_ | with_reducible refine k_iEnm ?_ | with_reducible refine k_then_rt ?_ | with_reducible refine k_then_bk ?_ | with_reducible refine k_then_ct ?_ | with_reducible refine k_skip ?_ | with_reducible refine k_break ?_ | with_reducible refine k_cont ?_ | with_reducible refine k_retN ?_
      | with_reducible refine k_e1 ?_ | with_reducible refine k_not ?_ | with_reducible refine k_and ?_ | with_reducible refine k_or ?_ | with_reducible refine k_ifE ?_ | with_reducible refine k_chain ?_ | with_reducible refine k_slice ?_ | with_reducible refine k_oN ?_ | with_reducible refine k_oS ?_ | with_reducible refine k_lc ?_
      | with_reducible refine k_bAnd ?_ | with_reducible refine k_bOr ?_ | with_reducible refine k_bNot ?_ | with_reducible refine k_yes ?_ | with_reducible refine k_onI ?_ | with_reducible refine k_onR ?_ | with_reducible refine k_onL1 ?_ | with_reducible refine k_onL2 ?_ | with_reducible refine k_itT ?_ | with_reducible refine k_itS ?_
      | with_reducible refine k_ends_rt ?_ | with_reducible refine k_ends_nx ?_ | with_reducible refine k_true ?_ | with_reducible refine k_false ?_ | with_reducible refine k_ntrue ?_ | with_reducible refine k_nfalse ?_
      | with_reducible refine k_addI ?_ | with_reducible refine k_subI ?_ | with_reducible refine k_intI ?_ | with_reducible refine k_ltI ?_ | with_reducible refine k_gtI ?_ | with_reducible refine k_leI ?_ | with_reducible refine k_geI ?_ | with_reducible refine k_eqI ?_ | with_reducible refine k_neI ?_ | with_reducible refine k_eqS ?_ | with_reducible refine k_neS ?_ | with_reducible refine k_negI ?_ | with_reducible refine k_notB ?_ | with_reducible refine k_maxI ?_ | with_reducible refine k_minI ?_ | with_reducible refine k_lenS ?_
      | ((with_reducible refine k_mulI ?e ?_); (case e => omega)) | ((with_reducible refine k_divI ?e ?e2 ?_); (case e => omega); (case e2 => omega)) | ((with_reducible refine k_modI ?e ?_); (case e => omega)) | ((with_reducible refine k_powI ?e ?_); (case e => decide))
      | ((with_reducible refine k_lst ?e ?_); (case e => first | decide | (simp; done) | (simp; omega))) | ((with_reducible refine k_tupD ?e ?_); (case e => first | decide | (simp; done)))
      | ((with_reducible refine' k_lenL ?e ?_); (case e => assumption)) | ((with_reducible refine' k_ixL ?e ?e2 ?_); (case e => assumption); (case e2 => first | assumption | rfl)) | ((with_reducible refine' k_ixT ?e2 ?_); (case e2 => first | assumption | rfl)) | ((with_reducible refine' k_itR ?e ?_); (case e => assumption)))
    obtain ⟨j, rfl⟩ := Int.eq_ofNat_of_zero_le hk
    have hj : j < ns.length := by omega
    refine k_ixS (atI_nat (List.getElem?_eq_getElem hj)) ?_
    repeat (first
      | with_reducible refine k_seq ?_ | ((with_reducible refine k_then_nx ?_); try dsimp only [put]) | with_reducible refine k_e2 ?_ | ((with_reducible refine' k_var ?e ?_); (case e => rfl)) | with_reducible refine k_const ?_
      | with_reducible refine k_set ?_ | with_reducible refine k_if ?_ | with_reducible refine k_ret ?_ | with_reducible refine k_eL ?_ | with_reducible refine k_aCons ?_ | with_reducible refine k_aNil ?_ | with_reducible refine k_bT ?_ | with_reducible refine k_onB ?_
      | with_reducible refine k_call1 ?_ | with_reducible refine k_call2 ?_ | with_reducible refine k_call3 ?_ | with_reducible refine k_expr ?_ | with_reducible refine k_for ?_ | with_reducible refine k_meth ?_ | with_reducible refine k_sub ?_ | with_reducible refine k_par ?_ | with_reducible refine k_tup ?_
      | with_reducible refine k_iAny ?_ | with_reducible refine k_iRng1 ?_ | with_reducible refine k_iRng2 ?_ | with_reducible refine k_iEnm ?_ | with_reducible refine k_then_rt ?_ | with_reducible refine k_then_bk ?_ | with_reducible refine k_then_ct ?_ | with_reducible refine k_skip ?_ | with_reducible refine k_break ?_ | with_reducible refine k_cont ?_ | with_reducible refine k_retN ?_
      | with_reducible refine k_e1 ?_ | with_reducible refine k_not ?_ | with_reducible refine k_and ?_ | with_reducible refine k_or ?_ | with_reducible refine k_ifE ?_ | with_reducible refine k_chain ?_ | with_reducible refine k_slice ?_ | with_reducible refine k_oN ?_ | with_reducible refine k_oS ?_ | with_reducible refine k_lc ?_
      | with_reducible refine k_bAnd ?_ | with_reducible refine k_bOr ?_ | with_reducible refine k_bNot ?_ | with_reducible refine k_yes ?_ | with_reducible refine k_onI ?_ | with_reducible refine k_onR ?_ | with_reducible refine k_onL1 ?_ | with_reducible refine k_onL2 ?_ | with_reducible refine k_itT ?_ | with_reducible refine k_itS ?_
      | with_reducible refine k_ends_rt ?_ | with_reducible refine k_ends_nx ?_ | with_reducible refine k_true ?_ | with_reducible refine k_false ?_ | with_reducible refine k_ntrue ?_ | with_reducible refine k_nfalse ?_
      | with_reducible refine k_addI ?_ | with_reducible refine k_subI ?_ | with_reducible refine k_intI ?_ | with_reducible refine k_ltI ?_ | with_reducible refine k_gtI ?_ | with_reducible refine k_leI ?_ | with_reducible refine k_geI ?_ | with_reducible refine k_eqI ?_ | with_reducible refine k_neI ?_ | with_reducible refine k_eqS ?_ | with_reducible refine k_neS ?_ | with_reducible refine k_negI ?_ | with_reducible refine k_notB ?_ | with_reducible refine k_maxI ?_ | with_reducible refine k_minI ?_ | with_reducible refine k_lenS ?_
      | ((with_reducible refine k_mulI ?e ?_); (case e => omega)) | ((with_reducible refine k_divI ?e ?e2 ?_); (case e => omega); (case e2 => omega)) | ((with_reducible refine k_modI ?e ?_); (case e => omega)) | ((with_reducible refine k_powI ?e ?_); (case e => decide))
      | ((with_reducible refine k_lst ?e ?_); (case e => first | decide | (simp; done) | (simp; omega))) | ((with_reducible refine k_tupD ?e ?_); (case e => first | decide | (simp; done)))
      | ((with_reducible refine' k_lenL ?e ?_); (case e => assumption)) | ((with_reducible refine' k_ixL ?e ?e2 ?_); (case e => assumption); (case e2 => first | assumption | rfl)) | ((with_reducible refine' k_ixT ?e2 ?_); (case e2 => first | assumption | rfl)) | ((with_reducible refine' k_itR ?e ?_); (case e => assumption)))
    exact ⟨rfl, _, rfl⟩
  · repeat (first
      | with_reducible refine k_seq ?_ | ((with_reducible refine k_then_nx ?_); try dsimp only [put]) | with_reducible refine k_e2 ?_ | ((with_reducible refine' k_var ?e ?_); (case e => rfl)) | with_reducible refine k_const ?_
      | with_reducible refine k_set ?_ | with_reducible refine k_if ?_ | with_reducible refine k_ret ?_ | with_reducible refine k_eL ?_ | with_reducible refine k_aCons ?_ | with_reducible refine k_aNil ?_ | with_reducible refine k_bT ?_ | with_reducible refine k_onB ?_
      | with_reducible refine k_call1 ?_ | with_reducible refine k_call2 ?_ | with_reducible refine k_call3 ?_ | with_reducible refine k_expr ?_ | with_reducible refine k_for ?_ | with_reducible refine k_meth ?_ | with_reducible refine k_sub ?_ | with_reducible refine k_par ?_ | with_reducible refine k_tup ?_
      | with_reducible refine k_iAny ?_ | with_reducible refine k_iRng1 ?_ | with_reducible refine k_iRng2 ?_ | with_reducible refine k_iEnm ?_ | with_reducible refine k_then_rt ?_ | with_reducible refine k_then_bk ?_ | with_reducible refine k_then_ct ?_ | with_reducible refine k_skip ?_ | with_reducible refine k_break ?_ | with_reducible refine k_cont ?_ | with_reducible refine k_retN ?_
      | with_reducible refine k_e1 ?_ | with_reducible refine k_not ?_ | with_reducible refine k_and ?_ | with_reducible refine k_or ?_ | with_reducible refine k_ifE ?_ | with_reducible refine k_chain ?_ | with_reducible refine k_slice ?_ | with_reducible refine k_oN ?_ | with_reducible refine k_oS ?_ | with_reducible refine k_lc ?_
      | with_reducible refine k_bAnd ?_ | with_reducible refine k_bOr ?_ | with_reducible refine k_bNot ?_ | with_reducible refine k_yes ?_ | with_reducible refine k_onI ?_ | with_reducible refine k_onR ?_ | with_reducible refine k_onL1 ?_ | with_reducible refine k_onL2 ?_ | with_reducible refine k_itT ?_ | with_reducible refine k_itS ?_
      | with_reducible refine k_ends_rt ?_ | with_reducible refine k_ends_nx ?_ | with_reducible refine k_true ?_ | with_reducible refine k_false ?_ | with_reducible refine k_ntrue ?_ | with_reducible refine k_nfalse ?_
      | with_reducible refine k_addI ?_ | with_reducible refine k_subI ?_ | with_reducible refine k_intI ?_ | with_reducible refine k_ltI ?_ | with_reducible refine k_gtI ?_ | with_reducible refine k_leI ?_ | with_reducible refine k_geI ?_ | with_reducible refine k_eqI ?_ | with_reducible refine k_neI ?_ | with_reducible refine k_eqS ?_ | with_reducible refine k_neS ?_ | with_reducible refine k_negI ?_ | with_reducible refine k_notB ?_ | with_reducible refine k_maxI ?_ | with_reducible refine k_minI ?_ | with_reducible refine k_lenS ?_
      | ((with_reducible refine k_mulI ?e ?_); (case e => omega)) | ((with_reducible refine k_divI ?e ?e2 ?_); (case e => omega); (case e2 => omega)) | ((with_reducible refine k_modI ?e ?_); (case e => omega)) | ((with_reducible refine k_powI ?e ?_); (case e => decide))
      | ((with_reducible refine k_lst ?e ?_); (case e => first | decide | (simp; done) | (simp; omega))) | ((with_reducible refine k_tupD ?e ?_); (case e => first | decide | (simp; done)))
      | ((with_reducible refine' k_lenL ?e ?_); (case e => assumption)) | ((with_reducible refine' k_ixL ?e ?e2 ?_); (case e => assumption); (case e2 => first | assumption | rfl)) | ((with_reducible refine' k_ixT ?e2 ?_); (case e2 => first | assumption | rfl)) | ((with_reducible refine' k_itR ?e ?_); (case e => assumption)))
    exact ⟨rfl, _, rfl⟩
theorem next_sat {h : Hh} {a : Nat} {n : Int} (s : Src h a) (h0 : 0 < n) (h1 : n < 1000000000000000000000) : Sat (d__law_next [.ref a, .int n] h) (fun v h' => ∃ r, v = .int r ∧ 0 ≤ r ∧ r < n ∧ Mod a h h') NoX := by
  obtain ⟨x, y, z, e⟩ := s
  have m0 : Mod a h h := Mod.refl ⟨x, y, z, e⟩
  unfold d__law_next
  refine st_fn' (σ0 := [some (.ref a), some (.int n), none]) rfl ?_
  repeat (first
    | with_reducible refine k_seq ?_ | ((with_reducible refine k_then_nx ?_); try dsimp only [put]) | with_reducible refine k_e2 ?_ | ((with_reducible refine' k_var ?e ?_); (case e => rfl)) | with_reducible refine k_const ?_
    | with_reducible refine k_set ?_ | with_reducible refine k_if ?_ | with_reducible refine k_ret ?_ | with_reducible refine k_eL ?_ | with_reducible refine k_aCons ?_ | with_reducible refine k_aNil ?_ | with_reducible refine k_bT ?_ | with_reducible refine k_onB ?_
    | with_reducible refine k_call1 ?_ | with_reducible refine k_call2 ?_ | with_reducible refine k_call3 ?_ | with_reducible refine k_expr ?_ | with_reducible refine k_for ?_ | with_reducible refine k_meth ?_ | with_reducible refine k_sub ?_ | with_reducible refine k_par ?_ | with_reducible refine k_tup ?_
    | with_reducible refine k_iAny ?_ | with_reducible refine k_iRng1 ?_ | with_reducible refine k_iRng2 ?_ | with_reducible refine k_iEnm ?_ | with_reducible refine k_then_rt ?_ | with_reducible refine k_then_bk ?_ | with_reducible refine k_then_ct ?_ | with_reducible refine k_skip ?_ | with_reducible refine k_break ?_ | with_reducible refine k_cont ?_ | with_reducible refine k_retN ?_
    | with_reducible refine k_e1 ?_ | with_reducible refine k_not ?_ | with_reducible refine k_and ?_ | with_reducible refine k_or ?_ | with_reducible refine k_ifE ?_ | with_reducible refine k_chain ?_ | with_reducible refine k_slice ?_ | with_reducible refine k_oN ?_ | with_reducible refine k_oS ?_ | with_reducible refine k_lc ?_
    | with_reducible refine k_bAnd ?_ | with_reducible refine k_bOr ?_ | with_reducible refine k_bNot ?_ | with_reducible refine k_yes ?_ | with_reducible refine k_onI ?_ | with_reducible refine k_onR ?_ | with_reducible refine k_onL1 ?_ | with_reducible refine k_onL2 ?_ | with_reducible refine k_itT ?_ | with_reducible refine k_itS ?_
    | with_reducible refine k_ends_rt ?_ | with_reducible refine k_ends_nx ?_ | with_reducible refine k_true ?_ | with_reducible refine k_false ?_ | with_reducible refine k_ntrue ?_ | with_reducible refine k_nfalse ?_
    | with_reducible refine k_addI ?_ | with_reducible refine k_subI ?_ | with_reducible refine k_intI ?_ | with_reducible refine k_ltI ?_ | with_reducible refine k_gtI ?_ | with_reducible refine k_leI ?_ | with_reducible refine k_geI ?_ | with_reducible refine k_eqI ?_ | with_reducible refine k_neI ?_ | with_reducible refine k_eqS ?_ | with_reducible refine k_neS ?_ | with_reducible refine k_negI ?_ | with_reducible refine k_notB ?_ | with_reducible refine k_maxI ?_ | with_reducible refine k_minI ?_ | with_reducible refine k_lenS ?_
    | ((with_reducible refine k_mulI ?e ?_); (case e => omega)) | ((with_reducible refine k_divI ?e ?e2 ?_); (case e => omega); (case e2 => omega)) | ((with_reducible refine k_modI ?e ?_); (case e => omega)) | ((with_reducible refine k_powI ?e ?_); (case e => decide))
    | ((with_reducible refine k_lst ?e ?_); (case e => first | decide | (simp; done) | (simp; omega))) | ((with_reducible refine k_tupD ?e ?_); (case e => first | decide | (simp; done)))
    | ((with_reducible refine' k_lenL ?e ?_); (case e => assumption)) | ((with_reducible refine' k_ixL ?e ?e2 ?_); (case e => assumption); (case e2 => first | assumption | rfl)) | ((with_reducible refine' k_ixT ?e2 ?_); (case e2 => first | assumption | rfl)) | ((with_reducible refine' k_itR ?e ?_); (case e => assumption)))
  refine k_dec (fun hp => ?_) fun hn => ?_
  · repeat (first
      | with_reducible refine k_seq ?_ | ((with_reducible refine k_then_nx ?_); try dsimp only [put]) | with_reducible refine k_e2 ?_ | ((with_reducible refine' k_var ?e ?_); (case e => rfl)) | with_reducible refine k_const ?_
      | with_reducible refine k_set ?_ | with_reducible refine k_if ?_ | with_reducible refine k_ret ?_ | with_reducible refine k_eL ?_ | with_reducible refine k_aCons ?_ | with_reducible refine k_aNil ?_ | with_reducible refine k_bT ?_ | with_reducible refine k_onB ?_
      | with_reducible refine k_call1 ?_ | with_reducible refine k_call2 ?_ | with_reducible refine k_call3 ?_ | with_reducible refine k_expr ?_ | with_reducible refine k_for ?_ | with_reducible refine k_meth ?_ | with_reducible refine k_sub ?_ | with_reducible refine k_par ?_ | with_reducible refine k_tup ?_
      | with_reducible refine k_iAny ?_ | with_reducible refine k_iRng1 ?_ | with_reducible refine k_iRng2 ?_ | with_reducible refine k_iEnm ?_ | with_reducible refine k_then_rt ?_ | with_reducible refine k_then_bk ?_ | with_reducible refine k_then_ct ?_ | with_reducible refine k_skip ?_ | with_reducible refine k_break ?_ | with_reducible refine k_cont ?_ | with_reducible refine k_retN ?_
      | with_reducible refine k_e1 ?_ | with_reducible refine k_not ?_ | with_reducible refine k_and ?_ | with_reducible refine k_or ?_ | with_reducible refine k_ifE ?_ | with_reducible refine k_chain ?_ | with_reducible refine k_slice ?_ | with_reducible refine k_oN ?_ | with_reducible refine k_oS ?_ | with_reducible refine k_lc ?_
      | with_reducible refine k_bAnd ?_ | with_reducible refine k_bOr ?_ | with_reducible refine k_bNot ?_ | with_reducible refine k_yes ?_ | with_reducible refine k_onI ?_ | with_reducible refine k_onR ?_ | with_reducible refine k_onL1 ?_ | with_reducible refine k_onL2 ?_ | with_reducible refine k_itT ?_ | with_reducible refine k_itS ?_
      | with_reducible refine k_ends_rt ?_ | with_reducible refine k_ends_nx ?_ | with_reducible refine k_true ?_ | with_reducible refine k_false ?_ | with_reducible refine k_ntrue ?_ | with_reducible refine k_nfalse ?_
      | with_reducible refine k_addI ?_ | with_reducible refine k_subI ?_ | with_reducible refine k_intI ?_ | with_reducible refine k_ltI ?_ | with_reducible refine k_gtI ?_ | with_reducible refine k_leI ?_ | with_reducible refine k_geI ?_ | with_reducible refine k_eqI ?_ | with_reducible refine k_neI ?_ | with_reducible refine k_eqS ?_ | with_reducible refine k_neS ?_ | with_reducible refine k_negI ?_ | with_reducible refine k_notB ?_ | with_reducible refine k_maxI ?_ | with_reducible refine k_minI ?_ | with_reducible refine k_lenS ?_
      | ((with_reducible refine k_mulI ?e ?_); (case e => omega)) | ((with_reducible refine k_divI ?e ?e2 ?_); (case e => omega); (case e2 => omega)) | ((with_reducible refine k_modI ?e ?_); (case e => omega)) | ((with_reducible refine k_powI ?e ?_); (case e => decide))
      | ((with_reducible refine k_lst ?e ?_); (case e => first | decide | (simp; done) | (simp; omega))) | ((with_reducible refine k_tupD ?e ?_); (case e => first | decide | (simp; done)))
      | ((with_reducible refine' k_lenL ?e ?_); (case e => assumption)) | ((with_reducible refine' k_ixL ?e ?e2 ?_); (case e => assumption); (case e2 => first | assumption | rfl)) | ((with_reducible refine' k_ixT ?e2 ?_); (case e2 => first | assumption | rfl)) | ((with_reducible refine' k_itR ?e ?_); (case e => assumption)))
    refine k_setL e rfl ?_
    repeat (first
      | with_reducible refine k_seq ?_ | ((with_reducible refine k_then_nx ?_); try dsimp only [put]) | with_reducible refine k_e2 ?_ | ((with_reducible refine' k_var ?e ?_); (case e => rfl)) | with_reducible refine k_const ?_
      | with_reducible refine k_set ?_ | with_reducible refine k_if ?_ | with_reducible refine k_ret ?_ | with_reducible refine k_eL ?_ | with_reducible refine k_aCons ?_ | with_reducible refine k_aNil ?_ | with_reducible refine k_bT ?_ | with_reducible refine k_onB ?_
      | with_reducible refine k_call1 ?_ | with_reducible refine k_call2 ?_ | with_reducible refine k_call3 ?_ | with_reducible refine k_expr ?_ | with_reducible refine k_for ?_ | with_reducible refine k_meth ?_ | with_reducible refine k_sub ?_ | with_reducible refine k_par ?_ | with_reducible refine k_tup ?_
      | with_reducible refine k_iAny ?_ | with_reducible refine k_iRng1 ?_ | with_reducible refine k_iRng2 ?_ | with_reducible refine k_iEnm ?_ | with_reducible refine k_then_rt ?_ | with_reducible refine k_then_bk ?_ | with_reducible refine k_then_ct ?_ | with_reducible refine k_skip ?_ | with_reducible refine k_break ?_ | with_reducible refine k_cont ?_ | with_reducible refine k_retN ?_
      | with_reducible refine k_e1 ?_ | with_reducible refine k_not ?_ | with_reducible refine k_and ?_ | with_reducible refine k_or ?_ | with_reducible refine k_ifE ?_ | with_reducible refine k_chain ?_ | with_reducible refine k_slice ?_ | with_reducible refine k_oN ?_ | with_reducible refine k_oS ?_ | with_reducible refine k_lc ?_
      | with_reducible refine k_bAnd ?_ | with_reducible refine k_bOr ?_ | with_reducible refine k_bNot ?_ | with_reducible refine k_yes ?_ | with_reducible refine k_onI ?_ | with_reducible refine k_onR ?_ | with_reducible refine k_onL1 ?_ | with_reducible refine k_onL2 ?_ | with_reducible refine k_itT ?_ | with_reducible refine k_itS ?_
      | with_reducible refine k_ends_rt ?_ | with_reducible refine k_ends_nx ?_ | with_reducible refine k_true ?_ | with_reducible refine k_false ?_ | with_reducible refine k_ntrue ?_ | with_reducible refine k_nfalse ?_
      | with_reducible refine k_addI ?_ | with_reducible refine k_subI ?_ | with_reducible refine k_intI ?_ | with_reducible refine k_ltI ?_ | with_reducible refine k_gtI ?_ | with_reducible refine k_leI ?_ | with_reducible refine k_geI ?_ | with_reducible refine k_eqI ?_ | with_reducible refine k_neI ?_ | with_reducible refine k_eqS ?_ | with_reducible refine k_neS ?_ | with_reducible refine k_negI ?_ | with_reducible refine k_notB ?_ | with_reducible refine k_maxI ?_ | with_reducible refine k_minI ?_ | with_reducible refine k_lenS ?_
      | ((with_reducible refine k_mulI ?e ?_); (case e => omega)) | ((with_reducible refine k_divI ?e ?e2 ?_); (case e => omega); (case e2 => omega)) | ((with_reducible refine k_modI ?e ?_); (case e => omega)) | ((with_reducible refine k_powI ?e ?_); (case e => decide))
      | ((with_reducible refine k_lst ?e ?_); (case e => first | decide | (simp; done) | (simp; omega))) | ((with_reducible refine k_tupD ?e ?_); (case e => first | decide | (simp; done)))
      | ((with_reducible refine' k_lenL ?e ?_); (case e => assumption)) | ((with_reducible refine' k_ixL ?e ?e2 ?_); (case e => assumption); (case e2 => first | assumption | rfl)) | ((with_reducible refine' k_ixT ?e2 ?_); (case e2 => first | assumption | rfl)) | ((with_reducible refine' k_itR ?e ?_); (case e => assumption)))
    exact ⟨_, rfl, Int.emod_nonneg _ (by omega), Int.emod_lt_of_pos _ h0, m0.draw⟩
  · repeat (first
      | with_reducible refine k_seq ?_ | ((with_reducible refine k_then_nx ?_); try dsimp only [put]) | with_reducible refine k_e2 ?_ | ((with_reducible refine' k_var ?e ?_); (case e => rfl)) | with_reducible refine k_const ?_
      | with_reducible refine k_set ?_ | with_reducible refine k_if ?_ | with_reducible refine k_ret ?_ | with_reducible refine k_eL ?_ | with_reducible refine k_aCons ?_ | with_reducible refine k_aNil ?_ | with_reducible refine k_bT ?_ | with_reducible refine k_onB ?_
      | with_reducible refine k_call1 ?_ | with_reducible refine k_call2 ?_ | with_reducible refine k_call3 ?_ | with_reducible refine k_expr ?_ | with_reducible refine k_for ?_ | with_reducible refine k_meth ?_ | with_reducible refine k_sub ?_ | with_reducible refine k_par ?_ | with_reducible refine k_tup ?_
      | with_reducible refine k_iAny ?_ | with_reducible refine k_iRng1 ?_ | with_reducible refine k_iRng2 ?_ | with_reducible refine k_iEnm ?_ | with_reducible refine k_then_rt ?_ | with_reducible refine k_then_bk ?_ | with_reducible refine k_then_ct ?_ | with_reducible refine k_skip ?_ | with_reducible refine k_break ?_ | with_reducible refine k_cont ?_ | with_reducible refine k_retN ?_
      | with_reducible refine k_e1 ?_ | with_reducible refine k_not ?_ | with_reducible refine k_and ?_ | with_reducible refine k_or ?_ | with_reducible refine k_ifE ?_ | with_reducible refine k_chain ?_ | with_reducible refine k_slice ?_ | with_reducible refine k_oN ?_ | with_reducible refine k_oS ?_ | with_reducible refine k_lc ?_
      | with_reducible refine k_bAnd ?_ | with_reducible refine k_bOr ?_ | with_reducible refine k_bNot ?_ | with_reducible refine k_yes ?_ | with_reducible refine k_onI ?_ | with_reducible refine k_onR ?_ | with_reducible refine k_onL1 ?_ | with_reducible refine k_onL2 ?_ | with_reducible refine k_itT ?_ | with_reducible refine k_itS ?_
      | with_reducible refine k_ends_rt ?_ | with_reducible refine k_ends_nx ?_ | with_reducible refine k_true ?_ | with_reducible refine k_false ?_ | with_reducible refine k_ntrue ?_ | with_reducible refine k_nfalse ?_
      | with_reducible refine k_addI ?_ | with_reducible refine k_subI ?_ | with_reducible refine k_intI ?_ | with_reducible refine k_ltI ?_ | with_reducible refine k_gtI ?_ | with_reducible refine k_leI ?_ | with_reducible refine k_geI ?_ | with_reducible refine k_eqI ?_ | with_reducible refine k_neI ?_ | with_reducible refine k_eqS ?_ | with_reducible refine k_neS ?_ | with_reducible refine k_negI ?_ | with_reducible refine k_notB ?_ | with_reducible refine k_maxI ?_ | with_reducible refine k_minI ?_ | with_reducible refine k_lenS ?_
      | ((with_reducible refine k_mulI ?e ?_); (case e => omega)) | ((with_reducible refine k_divI ?e ?e2 ?_); (case e => omega); (case e2 => omega)) | ((with_reducible refine k_modI ?e ?_); (case e => omega)) | ((with_reducible refine k_powI ?e ?_); (case e => decide))
      | ((with_reducible refine k_lst ?e ?_); (case e => first | decide | (simp; done) | (simp; omega))) | ((with_reducible refine k_tupD ?e ?_); (case e => first | decide | (simp; done)))
      | ((with_reducible refine' k_lenL ?e ?_); (case e => assumption)) | ((with_reducible refine' k_ixL ?e ?e2 ?_); (case e => assumption); (case e2 => first | assumption | rfl)) | ((with_reducible refine' k_ixT ?e2 ?_); (case e2 => first | assumption | rfl)) | ((with_reducible refine' k_itR ?e ?_); (case e => assumption)))
    refine k_setL e rfl ?_
    have e1 : lstAt (h.set a (.lst [.int x, .int y, .int (z + 1)])) a = some [.int x, .int y, .int (z + 1)] := lst_set e
    repeat (first
      | with_reducible refine k_seq ?_ | ((with_reducible refine k_then_nx ?_); try dsimp only [put]) | with_reducible refine k_e2 ?_ | ((with_reducible refine' k_var ?e ?_); (case e => rfl)) | with_reducible refine k_const ?_
      | with_reducible refine k_set ?_ | with_reducible refine k_if ?_ | with_reducible refine k_ret ?_ | with_reducible refine k_eL ?_ | with_reducible refine k_aCons ?_ | with_reducible refine k_aNil ?_ | with_reducible refine k_bT ?_ | with_reducible refine k_onB ?_
      | with_reducible refine k_call1 ?_ | with_reducible refine k_call2 ?_ | with_reducible refine k_call3 ?_ | with_reducible refine k_expr ?_ | with_reducible refine k_for ?_ | with_reducible refine k_meth ?_ | with_reducible refine k_sub ?_ | with_reducible refine k_par ?_ | with_reducible refine k_tup ?_
      | with_reducible refine k_iAny ?_ | with_reducible refine k_iRng1 ?_ | with_reducible refine k_iRng2 ?_ | with_reducible refine k_iEnm ?_ | with_reducible refine k_then_rt ?_ | with_reducible refine k_then_bk ?_ | with_reducible refine k_then_ct ?_ | with_reducible refine k_skip ?_ | with_reducible refine k_break ?_ | with_reducible refine k_cont ?_ | with_reducible refine k_retN ?_
      | with_reducible refine k_e1 ?_ | with_reducible refine k_not ?_ | with_reducible refine k_and ?_ | with_reducible refine k_or ?_ | with_reducible refine k_ifE ?_ | with_reducible refine k_chain ?_ | with_reducible refine k_slice ?_ | with_reducible refine k_oN ?_ | with_reducible refine k_oS ?_ | with_reducible refine k_lc ?_
      | with_reducible refine k_bAnd ?_ | with_reducible refine k_bOr ?_ | with_reducible refine k_bNot ?_ | with_reducible refine k_yes ?_ | with_reducible refine k_onI ?_ | with_reducible refine k_onR ?_ | with_reducible refine k_onL1 ?_ | with_reducible refine k_onL2 ?_ | with_reducible refine k_itT ?_ | with_reducible refine k_itS ?_
      | with_reducible refine k_ends_rt ?_ | with_reducible refine k_ends_nx ?_ | with_reducible refine k_true ?_ | with_reducible refine k_false ?_ | with_reducible refine k_ntrue ?_ | with_reducible refine k_nfalse ?_
      | with_reducible refine k_addI ?_ | with_reducible refine k_subI ?_ | with_reducible refine k_intI ?_ | with_reducible refine k_ltI ?_ | with_reducible refine k_gtI ?_ | with_reducible refine k_leI ?_ | with_reducible refine k_geI ?_ | with_reducible refine k_eqI ?_ | with_reducible refine k_neI ?_ | with_reducible refine k_eqS ?_ | with_reducible refine k_neS ?_ | with_reducible refine k_negI ?_ | with_reducible refine k_notB ?_ | with_reducible refine k_maxI ?_ | with_reducible refine k_minI ?_ | with_reducible refine k_lenS ?_
      | ((with_reducible refine k_mulI ?e ?_); (case e => omega)) | ((with_reducible refine k_divI ?e ?e2 ?_); (case e => omega); (case e2 => omega)) | ((with_reducible refine k_modI ?e ?_); (case e => omega)) | ((with_reducible refine k_powI ?e ?_); (case e => decide))
      | ((with_reducible refine k_lst ?e ?_); (case e => first | decide | (simp; done) | (simp; omega))) | ((with_reducible refine k_tupD ?e ?_); (case e => first | decide | (simp; done)))
      | ((with_reducible refine' k_lenL ?e ?_); (case e => assumption)) | ((with_reducible refine' k_ixL ?e ?e2 ?_); (case e => assumption); (case e2 => first | assumption | rfl)) | ((with_reducible refine' k_ixT ?e2 ?_); (case e2 => first | assumption | rfl)) | ((with_reducible refine' k_itR ?e ?_); (case e => assumption)))
    refine (mixed_sat _ _ _).then fun v h' q => ?_
    obtain ⟨rfl, r, rfl, _, _⟩ := q
    repeat (first
      | with_reducible refine k_seq ?_ | ((with_reducible refine k_then_nx ?_); try dsimp only [put]) | with_reducible refine k_e2 ?_ | ((with_reducible refine' k_var ?e ?_); (case e => rfl)) | with_reducible refine k_const ?_
      | with_reducible refine k_set ?_ | with_reducible refine k_if ?_ | with_reducible refine k_ret ?_ | with_reducible refine k_eL ?_ | with_reducible refine k_aCons ?_ | with_reducible refine k_aNil ?_ | with_reducible refine k_bT ?_ | with_reducible refine k_onB ?_
      | with_reducible refine k_call1 ?_ | with_reducible refine k_call2 ?_ | with_reducible refine k_call3 ?_ | with_reducible refine k_expr ?_ | with_reducible refine k_for ?_ | with_reducible refine k_meth ?_ | with_reducible refine k_sub ?_ | with_reducible refine k_par ?_ | with_reducible refine k_tup ?_
      | with_reducible refine k_iAny ?_ | with_reducible refine k_iRng1 ?_ | with_reducible refine k_iRng2 ?_ | with_reducible refine k_iEnm ?_ | with_reducible refine k_then_rt ?_ | with_reducible refine k_then_bk ?_ | with_reducible refine k_then_ct ?_ | with_reducible refine k_skip ?_ | with_reducible refine k_break ?_ | with_reducible refine k_cont ?_ | with_reducible refine k_retN ?_
      | with_reducible refine k_e1 ?_ | with_reducible refine k_not ?_ | with_reducible refine k_and ?_ | with_reducible refine k_or ?_ | with_reducible refine k_ifE ?_ | with_reducible refine k_chain ?_ | with_reducible refine k_slice ?_ | with_reducible refine k_oN ?_ | with_reducible refine k_oS ?_ | with_reducible refine k_lc ?_
      | with_reducible refine k_bAnd ?_ | with_reducible refine k_bOr ?_ | with_reducible refine k_bNot ?_ | with_reducible refine k_yes ?_ | with_reducible refine k_onI ?_ | with_reducible refine k_onR ?_ | with_reducible refine k_onL1 ?_ | with_reducible refine k_onL2 ?_ | with_reducible refine k_itT ?_ | with_reducible refine k_itS ?_
      | with_reducible refine k_ends_rt ?_ | with_reducible refine k_ends_nx ?_ | with_reducible refine k_true ?_ | with_reducible refine k_false ?_ | with_reducible refine k_ntrue ?_ | with_reducible refine k_nfalse ?_
      | with_reducible refine k_addI ?_ | with_reducible refine k_subI ?_ | with_reducible refine k_intI ?_ | with_reducible refine k_ltI ?_ | with_reducible refine k_gtI ?_ | with_reducible refine k_leI ?_ | with_reducible refine k_geI ?_ | with_reducible refine k_eqI ?_ | with_reducible refine k_neI ?_ | with_reducible refine k_eqS ?_ | with_reducible refine k_neS ?_ | with_reducible refine k_negI ?_ | with_reducible refine k_notB ?_ | with_reducible refine k_maxI ?_ | with_reducible refine k_minI ?_ | with_reducible refine k_lenS ?_
      | ((with_reducible refine k_mulI ?e ?_); (case e => omega)) | ((with_reducible refine k_divI ?e ?e2 ?_); (case e => omega); (case e2 => omega)) | ((with_reducible refine k_modI ?e ?_); (case e => omega)) | ((with_reducible refine k_powI ?e ?_); (case e => decide))
      | ((with_reducible refine k_lst ?e ?_); (case e => first | decide | (simp; done) | (simp; omega))) | ((with_reducible refine k_tupD ?e ?_); (case e => first | decide | (simp; done)))
      | ((with_reducible refine' k_lenL ?e ?_); (case e => assumption)) | ((with_reducible refine' k_ixL ?e ?e2 ?_); (case e => assumption); (case e2 => first | assumption | rfl)) | ((with_reducible refine' k_ixT ?e2 ?_); (case e2 => first | assumption | rfl)) | ((with_reducible refine' k_itR ?e ?_); (case e => assumption)))
    exact ⟨_, rfl, Int.emod_nonneg _ (by omega), Int.emod_lt_of_pos _ h0, m0.draw⟩
theorem source_sat (ns : List Int) (k : Int) (hk : 0 ≤ k) (h : Hh) : Sat (d__law_source [.scr ns, .int k] h) (fun v h' => v = .ref h.length ∧ Ext h h' ∧ h'.length = h.length + 1 ∧ Src h' h.length) NoX := by
  unfold d__law_source
  refine st_fn' (σ0 := [some (.scr ns), some (.int k), none]) rfl ?_
  repeat (first
    | with_reducible refine k_seq ?_ | ((with_reducible refine k_then_nx ?_); try dsimp only [put]) | with_reducible refine k_e2 ?_ | ((with_reducible refine' k_var ?e ?_); (case e => rfl)) | with_reducible refine k_const ?_
    | with_reducible refine k_set ?_ | with_reducible refine k_if ?_ | with_reducible refine k_ret ?_ | with_reducible refine k_eL ?_ | with_reducible refine k_aCons ?_ | with_reducible refine k_aNil ?_ | with_reducible refine k_bT ?_ | with_reducible refine k_onB ?_
    | with_reducible refine k_call1 ?_ | with_reducible refine k_call2 ?_ | with_reducible refine k_call3 ?_ | with_reducible refine k_expr ?_ | with_reducible refine k_for ?_ | with_reducible refine k_meth ?_ | with_reducible refine k_sub ?_ | with_reducible refine k_par ?_ | with_reducible refine k_tup ?_
    | with_reducible refine k_iAny ?_ | with_reducible refine k_iRng1 ?_ | with_reducible refine k_iRng2 ?_ | with_reducible refine k_iEnm ?_ | with_reducible refine k_then_rt ?_ | with_reducible refine k_then_bk ?_ | with_reducible refine k_then_ct ?_ | with_reducible refine k_skip ?_ | with_reducible refine k_break ?_ | with_reducible refine k_cont ?_ | with_reducible refine k_retN ?_
    | with_reducible refine k_e1 ?_ | with_reducible refine k_not ?_ | with_reducible refine k_and ?_ | with_reducible refine k_or ?_ | with_reducible refine k_ifE ?_ | with_reducible refine k_chain ?_ | with_reducible refine k_slice ?_ | with_reducible refine k_oN ?_ | with_reducible refine k_oS ?_ | with_reducible refine k_lc ?_
    | with_reducible refine k_bAnd ?_ | with_reducible refine k_bOr ?_ | with_reducible refine k_bNot ?_ | with_reducible refine k_yes ?_ | with_reducible refine k_onI ?_ | with_reducible refine k_onR ?_ | with_reducible refine k_onL1 ?_ | with_reducible refine k_onL2 ?_ | with_reducible refine k_itT ?_ | with_reducible refine k_itS ?_
    | with_reducible refine k_ends_rt ?_ | with_reducible refine k_ends_nx ?_ | with_reducible refine k_true ?_ | with_reducible refine k_false ?_ | with_reducible refine k_ntrue ?_ | with_reducible refine k_nfalse ?_
    | with_reducible refine k_addI ?_ | with_reducible refine k_subI ?_ | with_reducible refine k_intI ?_ | with_reducible refine k_ltI ?_ | with_reducible refine k_gtI ?_ | with_reducible refine k_leI ?_ | with_reducible refine k_geI ?_ | with_reducible refine k_eqI ?_ | with_reducible refine k_neI ?_ | with_reducible refine k_eqS ?_ | with_reducible refine k_neS ?_ | with_reducible refine k_negI ?_ | with_reducible refine k_notB ?_ | with_reducible refine k_maxI ?_ | with_reducible refine k_minI ?_ | with_reducible refine k_lenS ?_
    | ((with_reducible refine k_mulI ?e ?_); (case e => omega)) | ((with_reducible refine k_divI ?e ?e2 ?_); (case e => omega); (case e2 => omega)) | ((with_reducible refine k_modI ?e ?_); (case e => omega)) | ((with_reducible refine k_powI ?e ?_); (case e => decide))
    | ((with_reducible refine k_lst ?e ?_); (case e => first | decide | (simp; done) | (simp; omega))) | ((with_reducible refine k_tupD ?e ?_); (case e => first | decide | (simp; done)))
    | ((with_reducible refine' k_lenL ?e ?_); (case e => assumption)) | ((with_reducible refine' k_ixL ?e ?e2 ?_); (case e => assumption); (case e2 => first | assumption | rfl)) | ((with_reducible refine' k_ixT ?e2 ?_); (case e2 => first | assumption | rfl)) | ((with_reducible refine' k_itR ?e ?_); (case e => assumption)))
  refine k_dec (fun hp => ?_) fun hn => ?_
  · repeat (first
      | with_reducible refine k_seq ?_ | ((with_reducible refine k_then_nx ?_); try dsimp only [put]) | with_reducible refine k_e2 ?_ | ((with_reducible refine' k_var ?e ?_); (case e => rfl)) | with_reducible refine k_const ?_
      | with_reducible refine k_set ?_ | with_reducible refine k_if ?_ | with_reducible refine k_ret ?_ | with_reducible refine k_eL ?_ | with_reducible refine k_aCons ?_ | with_reducible refine k_aNil ?_ | with_reducible refine k_bT ?_ | with_reducible refine k_onB ?_
      | with_reducible refine k_call1 ?_ | with_reducible refine k_call2 ?_ | with_reducible refine k_call3 ?_ | with_reducible refine k_expr ?_ | with_reducible refine k_for ?_ | with_reducible refine k_meth ?_ | with_reducible refine k_sub ?_ | with_reducible refine k_par ?_ | with_reducible refine k_tup ?_
      | with_reducible refine k_iAny ?_ | with_reducible refine k_iRng1 ?_ | with_reducible refine k_iRng2 ?_ | with_reducible refine k_iEnm ?_ | with_reducible refine k_then_rt ?_ | with_reducible refine k_then_bk ?_ | with_reducible refine k_then_ct ?_ | with_reducible refine k_skip ?_ | with_reducible refine k_break ?_ | with_reducible refine k_cont ?_ | with_reducible refine k_retN ?_
      | with_reducible refine k_e1 ?_ | with_reducible refine k_not ?_ | with_reducible refine k_and ?_ | with_reducible refine k_or ?_ | with_reducible refine k_ifE ?_ | with_reducible refine k_chain ?_ | with_reducible refine k_slice ?_ | with_reducible refine k_oN ?_ | with_reducible refine k_oS ?_ | with_reducible refine k_lc ?_
      | with_reducible refine k_bAnd ?_ | with_reducible refine k_bOr ?_ | with_reducible refine k_bNot ?_ | with_reducible refine k_yes ?_ | with_reducible refine k_onI ?_ | with_reducible refine k_onR ?_ | with_reducible refine k_onL1 ?_ | with_reducible refine k_onL2 ?_ | with_reducible refine k_itT ?_ | with_reducible refine k_itS ?_
      | with_reducible refine k_ends_rt ?_ | with_reducible refine k_ends_nx ?_ | with_reducible refine k_true ?_ | with_reducible refine k_false ?_ | with_reducible refine k_ntrue ?_ | with_reducible refine k_nfalse ?_
      | with_reducible refine k_addI ?_ | with_reducible refine k_subI ?_ | with_reducible refine k_intI ?_ | with_reducible refine k_ltI ?_ | with_reducible refine k_gtI ?_ | with_reducible refine k_leI ?_ | with_reducible refine k_geI ?_ | with_reducible refine k_eqI ?_ | with_reducible refine k_neI ?_ | with_reducible refine k_eqS ?_ | with_reducible refine k_neS ?_ | with_reducible refine k_negI ?_ | with_reducible refine k_notB ?_ | with_reducible refine k_maxI ?_ | with_reducible refine k_minI ?_ | with_reducible refine k_lenS ?_
      | ((with_reducible refine k_mulI ?e ?_); (case e => omega)) | ((with_reducible refine k_divI ?e ?e2 ?_); (case e => omega); (case e2 => omega)) | ((with_reducible refine k_modI ?e ?_); (case e => omega)) | ((with_reducible refine k_powI ?e ?_); (case e => decide))
      | ((with_reducible refine k_lst ?e ?_); (case e => first | decide | (simp; done) | (simp; omega))) | ((with_reducible refine k_tupD ?e ?_); (case e => first | decide | (simp; done)))
      | ((with_reducible refine' k_lenL ?e ?_); (case e => assumption)) | ((with_reducible refine' k_ixL ?e ?e2 ?_); (case e => assumption); (case e2 => first | assumption | rfl)) | ((with_reducible refine' k_ixT ?e2 ?_); (case e2 => first | assumption | rfl)) | ((with_reducible refine' k_itR ?e ?_); (case e => assumption)))
    obtain ⟨j, rfl⟩ := Int.eq_ofNat_of_zero_le hk
    have hj : j < ns.length := by omega
    refine k_ixS (atI_nat (List.getElem?_eq_getElem hj)) ?_
    repeat (first
      | with_reducible refine k_seq ?_ | ((with_reducible refine k_then_nx ?_); try dsimp only [put]) | with_reducible refine k_e2 ?_ | ((with_reducible refine' k_var ?e ?_); (case e => rfl)) | with_reducible refine k_const ?_
      | with_reducible refine k_set ?_ | with_reducible refine k_if ?_ | with_reducible refine k_ret ?_ | with_reducible refine k_eL ?_ | with_reducible refine k_aCons ?_ | with_reducible refine k_aNil ?_ | with_reducible refine k_bT ?_ | with_reducible refine k_onB ?_
      | with_reducible refine k_call1 ?_ | with_reducible refine k_call2 ?_ | with_reducible refine k_call3 ?_ | with_reducible refine k_expr ?_ | with_reducible refine k_for ?_ | with_reducible refine k_meth ?_ | with_reducible refine k_sub ?_ | with_reducible refine k_par ?_ | with_reducible refine k_tup ?_
      | with_reducible refine k_iAny ?_ | with_reducible refine k_iRng1 ?_ | with_reducible refine k_iRng2 ?_ | with_reducible refine k_iEnm ?_ | with_reducible refine k_then_rt ?_ | with_reducible refine k_then_bk ?_ | with_reducible refine k_then_ct ?_ | with_reducible refine k_skip ?_ | with_reducible refine k_break ?_ | with_reducible refine k_cont ?_ | with_reducible refine k_retN ?_
      | with_reducible refine k_e1 ?_ | with_reducible refine k_not ?_ | with_reducible refine k_and ?_ | with_reducible refine k_or ?_ | with_reducible refine k_ifE ?_ | with_reducible refine k_chain ?_ | with_reducible refine k_slice ?_ | with_reducible refine k_oN ?_ | with_reducible refine k_oS ?_ | with_reducible refine k_lc ?_
      | with_reducible refine k_bAnd ?_ | with_reducible refine k_bOr ?_ | with_reducible refine k_bNot ?_ | with_reducible refine k_yes ?_ | with_reducible refine k_onI ?_ | with_reducible refine k_onR ?_ | with_reducible refine k_onL1 ?_ | with_reducible refine k_onL2 ?_ | with_reducible refine k_itT ?_ | with_reducible refine k_itS ?_
      | with_reducible refine k_ends_rt ?_ | with_reducible refine k_ends_nx ?_ | with_reducible refine k_true ?_ | with_reducible refine k_false ?_ | with_reducible refine k_ntrue ?_ | with_reducible refine k_nfalse ?_
      | with_reducible refine k_addI ?_ | with_reducible refine k_subI ?_ | with_reducible refine k_intI ?_ | with_reducible refine k_ltI ?_ | with_reducible refine k_gtI ?_ | with_reducible refine k_leI ?_ | with_reducible refine k_geI ?_ | with_reducible refine k_eqI ?_ | with_reducible refine k_neI ?_ | with_reducible refine k_eqS ?_ | with_reducible refine k_neS ?_ | with_reducible refine k_negI ?_ | with_reducible refine k_notB ?_ | with_reducible refine k_maxI ?_ | with_reducible refine k_minI ?_ | with_reducible refine k_lenS ?_
      | ((with_reducible refine k_mulI ?e ?_); (case e => omega)) | ((with_reducible refine k_divI ?e ?e2 ?_); (case e => omega); (case e2 => omega)) | ((with_reducible refine k_modI ?e ?_); (case e => omega)) | ((with_reducible refine k_powI ?e ?_); (case e => decide))
      | ((with_reducible refine k_lst ?e ?_); (case e => first | decide | (simp; done) | (simp; omega))) | ((with_reducible refine k_tupD ?e ?_); (case e => first | decide | (simp; done)))
      | ((with_reducible refine' k_lenL ?e ?_); (case e => assumption)) | ((with_reducible refine' k_ixL ?e ?e2 ?_); (case e => assumption); (case e2 => first | assumption | rfl)) | ((with_reducible refine' k_ixT ?e2 ?_); (case e2 => first | assumption | rfl)) | ((with_reducible refine' k_itR ?e ?_); (case e => assumption)))
    refine k_ixS (atI_nat (List.getElem?_eq_getElem hj)) ?_
    repeat (first
      | with_reducible refine k_seq ?_ | ((with_reducible refine k_then_nx ?_); try dsimp only [put]) | with_reducible refine k_e2 ?_ | ((with_reducible refine' k_var ?e ?_); (case e => rfl)) | with_reducible refine k_const ?_
      | with_reducible refine k_set ?_ | with_reducible refine k_if ?_ | with_reducible refine k_ret ?_ | with_reducible refine k_eL ?_ | with_reducible refine k_aCons ?_ | with_reducible refine k_aNil ?_ | with_reducible refine k_bT ?_ | with_reducible refine k_onB ?_
      | with_reducible refine k_call1 ?_ | with_reducible refine k_call2 ?_ | with_reducible refine k_call3 ?_ | with_reducible refine k_expr ?_ | with_reducible refine k_for ?_ | with_reducible refine k_meth ?_ | with_reducible refine k_sub ?_ | with_reducible refine k_par ?_ | with_reducible refine k_tup ?_
      | with_reducible refine k_iAny ?_ | with_reducible refine k_iRng1 ?_ | with_reducible refine k_iRng2 ?_ | with_reducible refine k_iEnm ?_ | with_reducible refine k_then_rt ?_ | with_reducible refine k_then_bk ?_ | with_reducible refine k_then_ct ?_ | with_reducible refine k_skip ?_ | with_reducible refine k_break ?_ | with_reducible refine k_cont ?_ | with_reducible refine k_retN ?_
      | with_reducible refine k_e1 ?_ | with_reducible refine k_not ?_ | with_reducible refine k_and ?_ | with_reducible refine k_or ?_ | with_reducible refine k_ifE ?_ | with_reducible refine k_chain ?_ | with_reducible refine k_slice ?_ | with_reducible refine k_oN ?_ | with_reducible refine k_oS ?_ | with_reducible refine k_lc ?_
      | with_reducible refine k_bAnd ?_ | with_reducible refine k_bOr ?_ | with_reducible refine k_bNot ?_ | with_reducible refine k_yes ?_ | with_reducible refine k_onI ?_ | with_reducible refine k_onR ?_ | with_reducible refine k_onL1 ?_ | with_reducible refine k_onL2 ?_ | with_reducible refine k_itT ?_ | with_reducible refine k_itS ?_
      | with_reducible refine k_ends_rt ?_ | with_reducible refine k_ends_nx ?_ | with_reducible refine k_true ?_ | with_reducible refine k_false ?_ | with_reducible refine k_ntrue ?_ | with_reducible refine k_nfalse ?_
      | with_reducible refine k_addI ?_ | with_reducible refine k_subI ?_ | with_reducible refine k_intI ?_ | with_reducible refine k_ltI ?_ | with_reducible refine k_gtI ?_ | with_reducible refine k_leI ?_ | with_reducible refine k_geI ?_ | with_reducible refine k_eqI ?_ | with_reducible refine k_neI ?_ | with_reducible refine k_eqS ?_ | with_reducible refine k_neS ?_ | with_reducible refine k_negI ?_ | with_reducible refine k_notB ?_ | with_reducible refine k_maxI ?_ | with_reducible refine k_minI ?_ | with_reducible refine k_lenS ?_
      | ((with_reducible refine k_mulI ?e ?_); (case e => omega)) | ((with_reducible refine k_divI ?e ?e2 ?_); (case e => omega); (case e2 => omega)) | ((with_reducible refine k_modI ?e ?_); (case e => omega)) | ((with_reducible refine k_powI ?e ?_); (case e => decide))
      | ((with_reducible refine k_lst ?e ?_); (case e => first | decide | (simp; done) | (simp; omega))) | ((with_reducible refine k_tupD ?e ?_); (case e => first | decide | (simp; done)))
      | ((with_reducible refine' k_lenL ?e ?_); (case e => assumption)) | ((with_reducible refine' k_ixL ?e ?e2 ?_); (case e => assumption); (case e2 => first | assumption | rfl)) | ((with_reducible refine' k_ixT ?e2 ?_); (case e2 => first | assumption | rfl)) | ((with_reducible refine' k_itR ?e ?_); (case e => assumption)))
    exact ⟨rfl, Ext.refl.snoc, by simp, _, _, _, lst_new⟩
  · repeat (first
      | with_reducible refine k_seq ?_ | ((with_reducible refine k_then_nx ?_); try dsimp only [put]) | with_reducible refine k_e2 ?_ | ((with_reducible refine' k_var ?e ?_); (case e => rfl)) | with_reducible refine k_const ?_
      | with_reducible refine k_set ?_ | with_reducible refine k_if ?_ | with_reducible refine k_ret ?_ | with_reducible refine k_eL ?_ | with_reducible refine k_aCons ?_ | with_reducible refine k_aNil ?_ | with_reducible refine k_bT ?_ | with_reducible refine k_onB ?_
      | with_reducible refine k_call1 ?_ | with_reducible refine k_call2 ?_ | with_reducible refine k_call3 ?_ | with_reducible refine k_expr ?_ | with_reducible refine k_for ?_ | with_reducible refine k_meth ?_ | with_reducible refine k_sub ?_ | with_reducible refine k_par ?_ | with_reducible refine k_tup ?_
      | with_reducible refine k_iAny ?_ | with_reducible refine k_iRng1 ?_ | with_reducible refine k_iRng2 ?_ | with_reducible refine k_iEnm ?_ | with_reducible refine k_then_rt ?_ | with_reducible refine k_then_bk ?_ | with_reducible refine k_then_ct ?_ | with_reducible refine k_skip ?_ | with_reducible refine k_break ?_ | with_reducible refine k_cont ?_ | with_reducible refine k_retN ?_
      | with_reducible refine k_e1 ?_ | with_reducible refine k_not ?_ | with_reducible refine k_and ?_ | with_reducible refine k_or ?_ | with_reducible refine k_ifE ?_ | with_reducible refine k_chain ?_ | with_reducible refine k_slice ?_ | with_reducible refine k_oN ?_ | with_reducible refine k_oS ?_ | with_reducible refine k_lc ?_
      | with_reducible refine k_bAnd ?_ | with_reducible refine k_bOr ?_ | with_reducible refine k_bNot ?_ | with_reducible refine k_yes ?_ | with_reducible refine k_onI ?_ | with_reducible refine k_onR ?_ | with_reducible refine k_onL1 ?_ | with_reducible refine k_onL2 ?_ | with_reducible refine k_itT ?_ | with_reducible refine k_itS ?_
      | with_reducible refine k_ends_rt ?_ | with_reducible refine k_ends_nx ?_ | with_reducible refine k_true ?_ | with_reducible refine k_false ?_ | with_reducible refine k_ntrue ?_ | with_reducible refine k_nfalse ?_
      | with_reducible refine k_addI ?_ | with_reducible refine k_subI ?_ | with_reducible refine k_intI ?_ | with_reducible refine k_ltI ?_ | with_reducible refine k_gtI ?_ | with_reducible refine k_leI ?_ | with_reducible refine k_geI ?_ | with_reducible refine k_eqI ?_ | with_reducible refine k_neI ?_ | with_reducible refine k_eqS ?_ | with_reducible refine k_neS ?_ | with_reducible refine k_negI ?_ | with_reducible refine k_notB ?_ | with_reducible refine k_maxI ?_ | with_reducible refine k_minI ?_ | with_reducible refine k_lenS ?_
      | ((with_reducible refine k_mulI ?e ?_); (case e => omega)) | ((with_reducible refine k_divI ?e ?e2 ?_); (case e => omega); (case e2 => omega)) | ((with_reducible refine k_modI ?e ?_); (case e => omega)) | ((with_reducible refine k_powI ?e ?_); (case e => decide))
      | ((with_reducible refine k_lst ?e ?_); (case e => first | decide | (simp; done) | (simp; omega))) | ((with_reducible refine k_tupD ?e ?_); (case e => first | decide | (simp; done)))
      | ((with_reducible refine' k_lenL ?e ?_); (case e => assumption)) | ((with_reducible refine' k_ixL ?e ?e2 ?_); (case e => assumption); (case e2 => first | assumption | rfl)) | ((with_reducible refine' k_ixT ?e2 ?_); (case e2 => first | assumption | rfl)) | ((with_reducible refine' k_itR ?e ?_); (case e => assumption)))
    refine (cell_sat ns 0 (by omega) _).then fun v h' q => ?_
    obtain ⟨rfl, r, rfl⟩ := q
    repeat (first
      | with_reducible refine k_seq ?_ | ((with_reducible refine k_then_nx ?_); try dsimp only [put]) | with_reducible refine k_e2 ?_ | ((with_reducible refine' k_var ?e ?_); (case e => rfl)) | with_reducible refine k_const ?_
      | with_reducible refine k_set ?_ | with_reducible refine k_if ?_ | with_reducible refine k_ret ?_ | with_reducible refine k_eL ?_ | with_reducible refine k_aCons ?_ | with_reducible refine k_aNil ?_ | with_reducible refine k_bT ?_ | with_reducible refine k_onB ?_
      | with_reducible refine k_call1 ?_ | with_reducible refine k_call2 ?_ | with_reducible refine k_call3 ?_ | with_reducible refine k_expr ?_ | with_reducible refine k_for ?_ | with_reducible refine k_meth ?_ | with_reducible refine k_sub ?_ | with_reducible refine k_par ?_ | with_reducible refine k_tup ?_
      | with_reducible refine k_iAny ?_ | with_reducible refine k_iRng1 ?_ | with_reducible refine k_iRng2 ?_ | with_reducible refine k_iEnm ?_ | with_reducible refine k_then_rt ?_ | with_reducible refine k_then_bk ?_ | with_reducible refine k_then_ct ?_ | with_reducible refine k_skip ?_ | with_reducible refine k_break ?_ | with_reducible refine k_cont ?_ | with_reducible refine k_retN ?_
      | with_reducible refine k_e1 ?_ | with_reducible refine k_not ?_ | with_reducible refine k_and ?_ | with_reducible refine k_or ?_ | with_reducible refine k_ifE ?_ | with_reducible refine k_chain ?_ | with_reducible refine k_slice ?_ | with_reducible refine k_oN ?_ | with_reducible refine k_oS ?_ | with_reducible refine k_lc ?_
      | with_reducible refine k_bAnd ?_ | with_reducible refine k_bOr ?_ | with_reducible refine k_bNot ?_ | with_reducible refine k_yes ?_ | with_reducible refine k_onI ?_ | with_reducible refine k_onR ?_ | with_reducible refine k_onL1 ?_ | with_reducible refine k_onL2 ?_ | with_reducible refine k_itT ?_ | with_reducible refine k_itS ?_
      | with_reducible refine k_ends_rt ?_ | with_reducible refine k_ends_nx ?_ | with_reducible refine k_true ?_ | with_reducible refine k_false ?_ | with_reducible refine k_ntrue ?_ | with_reducible refine k_nfalse ?_
      | with_reducible refine k_addI ?_ | with_reducible refine k_subI ?_ | with_reducible refine k_intI ?_ | with_reducible refine k_ltI ?_ | with_reducible refine k_gtI ?_ | with_reducible refine k_leI ?_ | with_reducible refine k_geI ?_ | with_reducible refine k_eqI ?_ | with_reducible refine k_neI ?_ | with_reducible refine k_eqS ?_ | with_reducible refine k_neS ?_ | with_reducible refine k_negI ?_ | with_reducible refine k_notB ?_ | with_reducible refine k_maxI ?_ | with_reducible refine k_minI ?_ | with_reducible refine k_lenS ?_
      | ((with_reducible refine k_mulI ?e ?_); (case e => omega)) | ((with_reducible refine k_divI ?e ?e2 ?_); (case e => omega); (case e2 => omega)) | ((with_reducible refine k_modI ?e ?_); (case e => omega)) | ((with_reducible refine k_powI ?e ?_); (case e => decide))
      | ((with_reducible refine k_lst ?e ?_); (case e => first | decide | (simp; done) | (simp; omega))) | ((with_reducible refine k_tupD ?e ?_); (case e => first | decide | (simp; done)))
      | ((with_reducible refine' k_lenL ?e ?_); (case e => assumption)) | ((with_reducible refine' k_ixL ?e ?e2 ?_); (case e => assumption); (case e2 => first | assumption | rfl)) | ((with_reducible refine' k_ixT ?e2 ?_); (case e2 => first | assumption | rfl)) | ((with_reducible refine' k_itR ?e ?_); (case e => assumption)))
    refine (mixed_sat _ _ _).then fun v h' q => ?_
    obtain ⟨rfl, r2, rfl, _, _⟩ := q
    repeat (first
      | with_reducible refine k_seq ?_ | ((with_reducible refine k_then_nx ?_); try dsimp only [put]) | with_reducible refine k_e2 ?_ | ((with_reducible refine' k_var ?e ?_); (case e => rfl)) | with_reducible refine k_const ?_
      | with_reducible refine k_set ?_ | with_reducible refine k_if ?_ | with_reducible refine k_ret ?_ | with_reducible refine k_eL ?_ | with_reducible refine k_aCons ?_ | with_reducible refine k_aNil ?_ | with_reducible refine k_bT ?_ | with_reducible refine k_onB ?_
      | with_reducible refine k_call1 ?_ | with_reducible refine k_call2 ?_ | with_reducible refine k_call3 ?_ | with_reducible refine k_expr ?_ | with_reducible refine k_for ?_ | with_reducible refine k_meth ?_ | with_reducible refine k_sub ?_ | with_reducible refine k_par ?_ | with_reducible refine k_tup ?_
      | with_reducible refine k_iAny ?_ | with_reducible refine k_iRng1 ?_ | with_reducible refine k_iRng2 ?_ | with_reducible refine k_iEnm ?_ | with_reducible refine k_then_rt ?_ | with_reducible refine k_then_bk ?_ | with_reducible refine k_then_ct ?_ | with_reducible refine k_skip ?_ | with_reducible refine k_break ?_ | with_reducible refine k_cont ?_ | with_reducible refine k_retN ?_
      | with_reducible refine k_e1 ?_ | with_reducible refine k_not ?_ | with_reducible refine k_and ?_ | with_reducible refine k_or ?_ | with_reducible refine k_ifE ?_ | with_reducible refine k_chain ?_ | with_reducible refine k_slice ?_ | with_reducible refine k_oN ?_ | with_reducible refine k_oS ?_ | with_reducible refine k_lc ?_
      | with_reducible refine k_bAnd ?_ | with_reducible refine k_bOr ?_ | with_reducible refine k_bNot ?_ | with_reducible refine k_yes ?_ | with_reducible refine k_onI ?_ | with_reducible refine k_onR ?_ | with_reducible refine k_onL1 ?_ | with_reducible refine k_onL2 ?_ | with_reducible refine k_itT ?_ | with_reducible refine k_itS ?_
      | with_reducible refine k_ends_rt ?_ | with_reducible refine k_ends_nx ?_ | with_reducible refine k_true ?_ | with_reducible refine k_false ?_ | with_reducible refine k_ntrue ?_ | with_reducible refine k_nfalse ?_
      | with_reducible refine k_addI ?_ | with_reducible refine k_subI ?_ | with_reducible refine k_intI ?_ | with_reducible refine k_ltI ?_ | with_reducible refine k_gtI ?_ | with_reducible refine k_leI ?_ | with_reducible refine k_geI ?_ | with_reducible refine k_eqI ?_ | with_reducible refine k_neI ?_ | with_reducible refine k_eqS ?_ | with_reducible refine k_neS ?_ | with_reducible refine k_negI ?_ | with_reducible refine k_notB ?_ | with_reducible refine k_maxI ?_ | with_reducible refine k_minI ?_ | with_reducible refine k_lenS ?_
      | ((with_reducible refine k_mulI ?e ?_); (case e => omega)) | ((with_reducible refine k_divI ?e ?e2 ?_); (case e => omega); (case e2 => omega)) | ((with_reducible refine k_modI ?e ?_); (case e => omega)) | ((with_reducible refine k_powI ?e ?_); (case e => decide))
      | ((with_reducible refine k_lst ?e ?_); (case e => first | decide | (simp; done) | (simp; omega))) | ((with_reducible refine k_tupD ?e ?_); (case e => first | decide | (simp; done)))
      | ((with_reducible refine' k_lenL ?e ?_); (case e => assumption)) | ((with_reducible refine' k_ixL ?e ?e2 ?_); (case e => assumption); (case e2 => first | assumption | rfl)) | ((with_reducible refine' k_ixT ?e2 ?_); (case e2 => first | assumption | rfl)) | ((with_reducible refine' k_itR ?e ?_); (case e => assumption)))
    exact ⟨rfl, Ext.refl.snoc, by simp, _, _, _, lst_new⟩
theorem shuffled_sat {h : Hh} {a b : Nat} {xs : List Pv} (s : Src h a) (e : lstAt h b = some xs) (hl : xs.length < 1000) : Sat (d__law_shuffled [.ref a, .ref b] h) (fun v h' => ∃ p ys, v = .ref p ∧ h.length ≤ p ∧ lstAt h' p = some ys ∧ ys.Perm xs ∧ Mod a h h') NoX := by
  have m0 := Mod.refl s
  have alt := s.lt
  unfold d__law_shuffled
  refine st_fn' (σ0 := [some (.ref a), some (.ref b), none, none]) rfl ?_
  repeat (first
    | with_reducible refine k_seq ?_ | ((with_reducible refine k_then_nx ?_); try dsimp only [put]) | with_reducible refine k_e2 ?_ | ((with_reducible refine' k_var ?e ?_); (case e => rfl)) | with_reducible refine k_const ?_
    | with_reducible refine k_set ?_ | with_reducible refine k_if ?_ | with_reducible refine k_ret ?_ | with_reducible refine k_eL ?_ | with_reducible refine k_aCons ?_ | with_reducible refine k_aNil ?_ | with_reducible refine k_bT ?_ | with_reducible refine k_onB ?_
    | with_reducible refine k_call1 ?_ | with_reducible refine k_call2 ?_ | with_reducible refine k_call3 ?_ | with_reducible refine k_expr ?_ | with_reducible refine k_for ?_ | with_reducible refine k_meth ?_ | with_reducible refine k_sub ?_ | with_reducible refine k_par ?_ | with_reducible refine k_tup ?_
    | with_reducible refine k_iAny ?_ | with_reducible refine k_iRng1 ?_ | with_reducible refine k_iRng2 ?_ | with_reducible refine k_iEnm ?_ | with_reducible refine k_then_rt ?_ | with_reducible refine k_then_bk ?_ | with_reducible refine k_then_ct ?_ | with_reducible refine k_skip ?_ | with_reducible refine k_break ?_ | with_reducible refine k_cont ?_ | with_reducible refine k_retN ?_
    | with_reducible refine k_e1 ?_ | with_reducible refine k_not ?_ | with_reducible refine k_and ?_ | with_reducible refine k_or ?_ | with_reducible refine k_ifE ?_ | with_reducible refine k_chain ?_ | with_reducible refine k_slice ?_ | with_reducible refine k_oN ?_ | with_reducible refine k_oS ?_ | with_reducible refine k_lc ?_
    | with_reducible refine k_bAnd ?_ | with_reducible refine k_bOr ?_ | with_reducible refine k_bNot ?_ | with_reducible refine k_yes ?_ | with_reducible refine k_onI ?_ | with_reducible refine k_onR ?_ | with_reducible refine k_onL1 ?_ | with_reducible refine k_onL2 ?_ | with_reducible refine k_itT ?_ | with_reducible refine k_itS ?_
    | with_reducible refine k_ends_rt ?_ | with_reducible refine k_ends_nx ?_ | with_reducible refine k_true ?_ | with_reducible refine k_false ?_ | with_reducible refine k_ntrue ?_ | with_reducible refine k_nfalse ?_
    | with_reducible refine k_addI ?_ | with_reducible refine k_subI ?_ | with_reducible refine k_intI ?_ | with_reducible refine k_ltI ?_ | with_reducible refine k_gtI ?_ | with_reducible refine k_leI ?_ | with_reducible refine k_geI ?_ | with_reducible refine k_eqI ?_ | with_reducible refine k_neI ?_ | with_reducible refine k_eqS ?_ | with_reducible refine k_neS ?_ | with_reducible refine k_negI ?_ | with_reducible refine k_notB ?_ | with_reducible refine k_maxI ?_ | with_reducible refine k_minI ?_ | with_reducible refine k_lenS ?_
    | ((with_reducible refine k_mulI ?e ?_); (case e => omega)) | ((with_reducible refine k_divI ?e ?e2 ?_); (case e => omega); (case e2 => omega)) | ((with_reducible refine k_modI ?e ?_); (case e => omega)) | ((with_reducible refine k_powI ?e ?_); (case e => decide))
    | ((with_reducible refine k_lst ?e ?_); (case e => first | decide | (simp; done) | (simp; omega))) | ((with_reducible refine k_tupD ?e ?_); (case e => first | decide | (simp; done)))
    | ((with_reducible refine' k_lenL ?e ?_); (case e => assumption)) | ((with_reducible refine' k_ixL ?e ?e2 ?_); (case e => assumption); (case e2 => first | assumption | rfl)) | ((with_reducible refine' k_ixT ?e2 ?_); (case e2 => first | assumption | rfl)) | ((with_reducible refine' k_itR ?e ?_); (case e => assumption)))
  refine k_listL e ?_
  repeat (first
    | with_reducible refine k_seq ?_ | ((with_reducible refine k_then_nx ?_); try dsimp only [put]) | with_reducible refine k_e2 ?_ | ((with_reducible refine' k_var ?e ?_); (case e => rfl)) | with_reducible refine k_const ?_
    | with_reducible refine k_set ?_ | with_reducible refine k_if ?_ | with_reducible refine k_ret ?_ | with_reducible refine k_eL ?_ | with_reducible refine k_aCons ?_ | with_reducible refine k_aNil ?_ | with_reducible refine k_bT ?_ | with_reducible refine k_onB ?_
    | with_reducible refine k_call1 ?_ | with_reducible refine k_call2 ?_ | with_reducible refine k_call3 ?_ | with_reducible refine k_expr ?_ | with_reducible refine k_for ?_ | with_reducible refine k_meth ?_ | with_reducible refine k_sub ?_ | with_reducible refine k_par ?_ | with_reducible refine k_tup ?_
    | with_reducible refine k_iAny ?_ | with_reducible refine k_iRng1 ?_ | with_reducible refine k_iRng2 ?_ | with_reducible refine k_iEnm ?_ | with_reducible refine k_then_rt ?_ | with_reducible refine k_then_bk ?_ | with_reducible refine k_then_ct ?_ | with_reducible refine k_skip ?_ | with_reducible refine k_break ?_ | with_reducible refine k_cont ?_ | with_reducible refine k_retN ?_
    | with_reducible refine k_e1 ?_ | with_reducible refine k_not ?_ | with_reducible refine k_and ?_ | with_reducible refine k_or ?_ | with_reducible refine k_ifE ?_ | with_reducible refine k_chain ?_ | with_reducible refine k_slice ?_ | with_reducible refine k_oN ?_ | with_reducible refine k_oS ?_ | with_reducible refine k_lc ?_
    | with_reducible refine k_bAnd ?_ | with_reducible refine k_bOr ?_ | with_reducible refine k_bNot ?_ | with_reducible refine k_yes ?_ | with_reducible refine k_onI ?_ | with_reducible refine k_onR ?_ | with_reducible refine k_onL1 ?_ | with_reducible refine k_onL2 ?_ | with_reducible refine k_itT ?_ | with_reducible refine k_itS ?_
    | with_reducible refine k_ends_rt ?_ | with_reducible refine k_ends_nx ?_ | with_reducible refine k_true ?_ | with_reducible refine k_false ?_ | with_reducible refine k_ntrue ?_ | with_reducible refine k_nfalse ?_
    | with_reducible refine k_addI ?_ | with_reducible refine k_subI ?_ | with_reducible refine k_intI ?_ | with_reducible refine k_ltI ?_ | with_reducible refine k_gtI ?_ | with_reducible refine k_leI ?_ | with_reducible refine k_geI ?_ | with_reducible refine k_eqI ?_ | with_reducible refine k_neI ?_ | with_reducible refine k_eqS ?_ | with_reducible refine k_neS ?_ | with_reducible refine k_negI ?_ | with_reducible refine k_notB ?_ | with_reducible refine k_maxI ?_ | with_reducible refine k_minI ?_ | with_reducible refine k_lenS ?_
    | ((with_reducible refine k_mulI ?e ?_); (case e => omega)) | ((with_reducible refine k_divI ?e ?e2 ?_); (case e => omega); (case e2 => omega)) | ((with_reducible refine k_modI ?e ?_); (case e => omega)) | ((with_reducible refine k_powI ?e ?_); (case e => decide))
    | ((with_reducible refine k_lst ?e ?_); (case e => first | decide | (simp; done) | (simp; omega))) | ((with_reducible refine k_tupD ?e ?_); (case e => first | decide | (simp; done)))
    | ((with_reducible refine' k_lenL ?e ?_); (case e => assumption)) | ((with_reducible refine' k_ixL ?e ?e2 ?_); (case e => assumption); (case e2 => first | assumption | rfl)) | ((with_reducible refine' k_ixT ?e2 ?_); (case e2 => first | assumption | rfl)) | ((with_reducible refine' k_itR ?e ?_); (case e => assumption)))
  refine st_while (fun σ g => ∃ ls fs, σ = [some (.ref a), some (.ref b), some (.ref h.length), some (.ref (h.length + 1))] ∧ lstAt g h.length = some ls ∧ lstAt g (h.length + 1) = some fs ∧ (fs ++ ls).Perm xs ∧ Mod a h g)
    (fun σ g => ((lstAt g h.length).getD []).length) ⟨xs, [], by simp [put], lst_old lst_new, by
      have := lst_new (h := h ++ [.lst xs]) (xs := []); simpa using this, List.Perm.refl _, m0.snoc.snoc⟩ (by
      rw [lst_old lst_new]; simp; omega) fun σ g w => ?_
  obtain ⟨ls, fs, rfl, e1, e2, pm, md⟩ := w
  repeat (first
    | with_reducible refine k_seq ?_ | ((with_reducible refine k_then_nx ?_); try dsimp only [put]) | with_reducible refine k_e2 ?_ | ((with_reducible refine' k_var ?e ?_); (case e => rfl)) | with_reducible refine k_const ?_
    | with_reducible refine k_set ?_ | with_reducible refine k_if ?_ | with_reducible refine k_ret ?_ | with_reducible refine k_eL ?_ | with_reducible refine k_aCons ?_ | with_reducible refine k_aNil ?_ | with_reducible refine k_bT ?_ | with_reducible refine k_onB ?_
    | with_reducible refine k_call1 ?_ | with_reducible refine k_call2 ?_ | with_reducible refine k_call3 ?_ | with_reducible refine k_expr ?_ | with_reducible refine k_for ?_ | with_reducible refine k_meth ?_ | with_reducible refine k_sub ?_ | with_reducible refine k_par ?_ | with_reducible refine k_tup ?_
    | with_reducible refine k_iAny ?_ | with_reducible refine k_iRng1 ?_ | with_reducible refine k_iRng2 ?_ | with_reducible refine k_iEnm ?_ | with_reducible refine k_then_rt ?_ | with_reducible refine k_then_bk ?_ | with_reducible refine k_then_ct ?_ | with_reducible refine k_skip ?_ | with_reducible refine k_break ?_ | with_reducible refine k_cont ?_ | with_reducible refine k_retN ?_
    | with_reducible refine k_e1 ?_ | with_reducible refine k_not ?_ | with_reducible refine k_and ?_ | with_reducible refine k_or ?_ | with_reducible refine k_ifE ?_ | with_reducible refine k_chain ?_ | with_reducible refine k_slice ?_ | with_reducible refine k_oN ?_ | with_reducible refine k_oS ?_ | with_reducible refine k_lc ?_
    | with_reducible refine k_bAnd ?_ | with_reducible refine k_bOr ?_ | with_reducible refine k_bNot ?_ | with_reducible refine k_yes ?_ | with_reducible refine k_onI ?_ | with_reducible refine k_onR ?_ | with_reducible refine k_onL1 ?_ | with_reducible refine k_onL2 ?_ | with_reducible refine k_itT ?_ | with_reducible refine k_itS ?_
    | with_reducible refine k_ends_rt ?_ | with_reducible refine k_ends_nx ?_ | with_reducible refine k_true ?_ | with_reducible refine k_false ?_ | with_reducible refine k_ntrue ?_ | with_reducible refine k_nfalse ?_
    | with_reducible refine k_addI ?_ | with_reducible refine k_subI ?_ | with_reducible refine k_intI ?_ | with_reducible refine k_ltI ?_ | with_reducible refine k_gtI ?_ | with_reducible refine k_leI ?_ | with_reducible refine k_geI ?_ | with_reducible refine k_eqI ?_ | with_reducible refine k_neI ?_ | with_reducible refine k_eqS ?_ | with_reducible refine k_neS ?_ | with_reducible refine k_negI ?_ | with_reducible refine k_notB ?_ | with_reducible refine k_maxI ?_ | with_reducible refine k_minI ?_ | with_reducible refine k_lenS ?_
    | ((with_reducible refine k_mulI ?e ?_); (case e => omega)) | ((with_reducible refine k_divI ?e ?e2 ?_); (case e => omega); (case e2 => omega)) | ((with_reducible refine k_modI ?e ?_); (case e => omega)) | ((with_reducible refine k_powI ?e ?_); (case e => decide))
    | ((with_reducible refine k_lst ?e ?_); (case e => first | decide | (simp; done) | (simp; omega))) | ((with_reducible refine k_tupD ?e ?_); (case e => first | decide | (simp; done)))
    | ((with_reducible refine' k_lenL ?e ?_); (case e => assumption)) | ((with_reducible refine' k_ixL ?e ?e2 ?_); (case e => assumption); (case e2 => first | assumption | rfl)) | ((with_reducible refine' k_ixT ?e2 ?_); (case e2 => first | assumption | rfl)) | ((with_reducible refine' k_itR ?e ?_); (case e => assumption)))
  have l1 := lst_lt e1
  have l2 := lst_lt e2
  have e1' := lst_old (o := .lst []) e1
  have e2' := lst_old (o := .lst []) e2
  refine k_neNil e1' lst_new (by omega) ?_
  repeat (first
    | with_reducible refine k_seq ?_ | ((with_reducible refine k_then_nx ?_); try dsimp only [put]) | with_reducible refine k_e2 ?_ | ((with_reducible refine' k_var ?e ?_); (case e => rfl)) | with_reducible refine k_const ?_
    | with_reducible refine k_set ?_ | with_reducible refine k_if ?_ | with_reducible refine k_ret ?_ | with_reducible refine k_eL ?_ | with_reducible refine k_aCons ?_ | with_reducible refine k_aNil ?_ | with_reducible refine k_bT ?_ | with_reducible refine k_onB ?_
    | with_reducible refine k_call1 ?_ | with_reducible refine k_call2 ?_ | with_reducible refine k_call3 ?_ | with_reducible refine k_expr ?_ | with_reducible refine k_for ?_ | with_reducible refine k_meth ?_ | with_reducible refine k_sub ?_ | with_reducible refine k_par ?_ | with_reducible refine k_tup ?_
    | with_reducible refine k_iAny ?_ | with_reducible refine k_iRng1 ?_ | with_reducible refine k_iRng2 ?_ | with_reducible refine k_iEnm ?_ | with_reducible refine k_then_rt ?_ | with_reducible refine k_then_bk ?_ | with_reducible refine k_then_ct ?_ | with_reducible refine k_skip ?_ | with_reducible refine k_break ?_ | with_reducible refine k_cont ?_ | with_reducible refine k_retN ?_
    | with_reducible refine k_e1 ?_ | with_reducible refine k_not ?_ | with_reducible refine k_and ?_ | with_reducible refine k_or ?_ | with_reducible refine k_ifE ?_ | with_reducible refine k_chain ?_ | with_reducible refine k_slice ?_ | with_reducible refine k_oN ?_ | with_reducible refine k_oS ?_ | with_reducible refine k_lc ?_
    | with_reducible refine k_bAnd ?_ | with_reducible refine k_bOr ?_ | with_reducible refine k_bNot ?_ | with_reducible refine k_yes ?_ | with_reducible refine k_onI ?_ | with_reducible refine k_onR ?_ | with_reducible refine k_onL1 ?_ | with_reducible refine k_onL2 ?_ | with_reducible refine k_itT ?_ | with_reducible refine k_itS ?_
    | with_reducible refine k_ends_rt ?_ | with_reducible refine k_ends_nx ?_ | with_reducible refine k_true ?_ | with_reducible refine k_false ?_ | with_reducible refine k_ntrue ?_ | with_reducible refine k_nfalse ?_
    | with_reducible refine k_addI ?_ | with_reducible refine k_subI ?_ | with_reducible refine k_intI ?_ | with_reducible refine k_ltI ?_ | with_reducible refine k_gtI ?_ | with_reducible refine k_leI ?_ | with_reducible refine k_geI ?_ | with_reducible refine k_eqI ?_ | with_reducible refine k_neI ?_ | with_reducible refine k_eqS ?_ | with_reducible refine k_neS ?_ | with_reducible refine k_negI ?_ | with_reducible refine k_notB ?_ | with_reducible refine k_maxI ?_ | with_reducible refine k_minI ?_ | with_reducible refine k_lenS ?_
    | ((with_reducible refine k_mulI ?e ?_); (case e => omega)) | ((with_reducible refine k_divI ?e ?e2 ?_); (case e => omega); (case e2 => omega)) | ((with_reducible refine k_modI ?e ?_); (case e => omega)) | ((with_reducible refine k_powI ?e ?_); (case e => decide))
    | ((with_reducible refine k_lst ?e ?_); (case e => first | decide | (simp; done) | (simp; omega))) | ((with_reducible refine k_tupD ?e ?_); (case e => first | decide | (simp; done)))
    | ((with_reducible refine' k_lenL ?e ?_); (case e => assumption)) | ((with_reducible refine' k_ixL ?e ?e2 ?_); (case e => assumption); (case e2 => first | assumption | rfl)) | ((with_reducible refine' k_ixT ?e2 ?_); (case e2 => first | assumption | rfl)) | ((with_reducible refine' k_itR ?e ?_); (case e => assumption)))
  refine k_decN (fun hne => ?_) fun hnil => ?_
  · repeat (first
      | with_reducible refine k_seq ?_ | ((with_reducible refine k_then_nx ?_); try dsimp only [put]) | with_reducible refine k_e2 ?_ | ((with_reducible refine' k_var ?e ?_); (case e => rfl)) | with_reducible refine k_const ?_
      | with_reducible refine k_set ?_ | with_reducible refine k_if ?_ | with_reducible refine k_ret ?_ | with_reducible refine k_eL ?_ | with_reducible refine k_aCons ?_ | with_reducible refine k_aNil ?_ | with_reducible refine k_bT ?_ | with_reducible refine k_onB ?_
      | with_reducible refine k_call1 ?_ | with_reducible refine k_call2 ?_ | with_reducible refine k_call3 ?_ | with_reducible refine k_expr ?_ | with_reducible refine k_for ?_ | with_reducible refine k_meth ?_ | with_reducible refine k_sub ?_ | with_reducible refine k_par ?_ | with_reducible refine k_tup ?_
      | with_reducible refine k_iAny ?_ | with_reducible refine k_iRng1 ?_ | with_reducible refine k_iRng2 ?_ | with_reducible refine k_iEnm ?_ | with_reducible refine k_then_rt ?_ | with_reducible refine k_then_bk ?_ | with_reducible refine k_then_ct ?_ | with_reducible refine k_skip ?_ | with_reducible refine k_break ?_ | with_reducible refine k_cont ?_ | with_reducible refine k_retN ?_
      | with_reducible refine k_e1 ?_ | with_reducible refine k_not ?_ | with_reducible refine k_and ?_ | with_reducible refine k_or ?_ | with_reducible refine k_ifE ?_ | with_reducible refine k_chain ?_ | with_reducible refine k_slice ?_ | with_reducible refine k_oN ?_ | with_reducible refine k_oS ?_ | with_reducible refine k_lc ?_
      | with_reducible refine k_bAnd ?_ | with_reducible refine k_bOr ?_ | with_reducible refine k_bNot ?_ | with_reducible refine k_yes ?_ | with_reducible refine k_onI ?_ | with_reducible refine k_onR ?_ | with_reducible refine k_onL1 ?_ | with_reducible refine k_onL2 ?_ | with_reducible refine k_itT ?_ | with_reducible refine k_itS ?_
      | with_reducible refine k_ends_rt ?_ | with_reducible refine k_ends_nx ?_ | with_reducible refine k_true ?_ | with_reducible refine k_false ?_ | with_reducible refine k_ntrue ?_ | with_reducible refine k_nfalse ?_
      | with_reducible refine k_addI ?_ | with_reducible refine k_subI ?_ | with_reducible refine k_intI ?_ | with_reducible refine k_ltI ?_ | with_reducible refine k_gtI ?_ | with_reducible refine k_leI ?_ | with_reducible refine k_geI ?_ | with_reducible refine k_eqI ?_ | with_reducible refine k_neI ?_ | with_reducible refine k_eqS ?_ | with_reducible refine k_neS ?_ | with_reducible refine k_negI ?_ | with_reducible refine k_notB ?_ | with_reducible refine k_maxI ?_ | with_reducible refine k_minI ?_ | with_reducible refine k_lenS ?_
      | ((with_reducible refine k_mulI ?e ?_); (case e => omega)) | ((with_reducible refine k_divI ?e ?e2 ?_); (case e => omega); (case e2 => omega)) | ((with_reducible refine k_modI ?e ?_); (case e => omega)) | ((with_reducible refine k_powI ?e ?_); (case e => decide))
      | ((with_reducible refine k_lst ?e ?_); (case e => first | decide | (simp; done) | (simp; omega))) | ((with_reducible refine k_tupD ?e ?_); (case e => first | decide | (simp; done)))
      | ((with_reducible refine' k_lenL ?e ?_); (case e => assumption)) | ((with_reducible refine' k_ixL ?e ?e2 ?_); (case e => assumption); (case e2 => first | assumption | rfl)) | ((with_reducible refine' k_ixT ?e2 ?_); (case e2 => first | assumption | rfl)) | ((with_reducible refine' k_itR ?e ?_); (case e => assumption)))
    refine ⟨k_isL e2', ?_⟩
    repeat (first
      | with_reducible refine k_seq ?_ | ((with_reducible refine k_then_nx ?_); try dsimp only [put]) | with_reducible refine k_e2 ?_ | ((with_reducible refine' k_var ?e ?_); (case e => rfl)) | with_reducible refine k_const ?_
      | with_reducible refine k_set ?_ | with_reducible refine k_if ?_ | with_reducible refine k_ret ?_ | with_reducible refine k_eL ?_ | with_reducible refine k_aCons ?_ | with_reducible refine k_aNil ?_ | with_reducible refine k_bT ?_ | with_reducible refine k_onB ?_
      | with_reducible refine k_call1 ?_ | with_reducible refine k_call2 ?_ | with_reducible refine k_call3 ?_ | with_reducible refine k_expr ?_ | with_reducible refine k_for ?_ | with_reducible refine k_meth ?_ | with_reducible refine k_sub ?_ | with_reducible refine k_par ?_ | with_reducible refine k_tup ?_
      | with_reducible refine k_iAny ?_ | with_reducible refine k_iRng1 ?_ | with_reducible refine k_iRng2 ?_ | with_reducible refine k_iEnm ?_ | with_reducible refine k_then_rt ?_ | with_reducible refine k_then_bk ?_ | with_reducible refine k_then_ct ?_ | with_reducible refine k_skip ?_ | with_reducible refine k_break ?_ | with_reducible refine k_cont ?_ | with_reducible refine k_retN ?_
      | with_reducible refine k_e1 ?_ | with_reducible refine k_not ?_ | with_reducible refine k_and ?_ | with_reducible refine k_or ?_ | with_reducible refine k_ifE ?_ | with_reducible refine k_chain ?_ | with_reducible refine k_slice ?_ | with_reducible refine k_oN ?_ | with_reducible refine k_oS ?_ | with_reducible refine k_lc ?_
      | with_reducible refine k_bAnd ?_ | with_reducible refine k_bOr ?_ | with_reducible refine k_bNot ?_ | with_reducible refine k_yes ?_ | with_reducible refine k_onI ?_ | with_reducible refine k_onR ?_ | with_reducible refine k_onL1 ?_ | with_reducible refine k_onL2 ?_ | with_reducible refine k_itT ?_ | with_reducible refine k_itS ?_
      | with_reducible refine k_ends_rt ?_ | with_reducible refine k_ends_nx ?_ | with_reducible refine k_true ?_ | with_reducible refine k_false ?_ | with_reducible refine k_ntrue ?_ | with_reducible refine k_nfalse ?_
      | with_reducible refine k_addI ?_ | with_reducible refine k_subI ?_ | with_reducible refine k_intI ?_ | with_reducible refine k_ltI ?_ | with_reducible refine k_gtI ?_ | with_reducible refine k_leI ?_ | with_reducible refine k_geI ?_ | with_reducible refine k_eqI ?_ | with_reducible refine k_neI ?_ | with_reducible refine k_eqS ?_ | with_reducible refine k_neS ?_ | with_reducible refine k_negI ?_ | with_reducible refine k_notB ?_ | with_reducible refine k_maxI ?_ | with_reducible refine k_minI ?_ | with_reducible refine k_lenS ?_
      | ((with_reducible refine k_mulI ?e ?_); (case e => omega)) | ((with_reducible refine k_divI ?e ?e2 ?_); (case e => omega); (case e2 => omega)) | ((with_reducible refine k_modI ?e ?_); (case e => omega)) | ((with_reducible refine k_powI ?e ?_); (case e => decide))
      | ((with_reducible refine k_lst ?e ?_); (case e => first | decide | (simp; done) | (simp; omega))) | ((with_reducible refine k_tupD ?e ?_); (case e => first | decide | (simp; done)))
      | ((with_reducible refine' k_lenL ?e ?_); (case e => assumption)) | ((with_reducible refine' k_ixL ?e ?e2 ?_); (case e => assumption); (case e2 => first | assumption | rfl)) | ((with_reducible refine' k_ixT ?e2 ?_); (case e2 => first | assumption | rfl)) | ((with_reducible refine' k_itR ?e ?_); (case e => assumption)))
    refine ⟨k_isL e1', ?_⟩
    repeat (first
      | with_reducible refine k_seq ?_ | ((with_reducible refine k_then_nx ?_); try dsimp only [put]) | with_reducible refine k_e2 ?_ | ((with_reducible refine' k_var ?e ?_); (case e => rfl)) | with_reducible refine k_const ?_
      | with_reducible refine k_set ?_ | with_reducible refine k_if ?_ | with_reducible refine k_ret ?_ | with_reducible refine k_eL ?_ | with_reducible refine k_aCons ?_ | with_reducible refine k_aNil ?_ | with_reducible refine k_bT ?_ | with_reducible refine k_onB ?_
      | with_reducible refine k_call1 ?_ | with_reducible refine k_call2 ?_ | with_reducible refine k_call3 ?_ | with_reducible refine k_expr ?_ | with_reducible refine k_for ?_ | with_reducible refine k_meth ?_ | with_reducible refine k_sub ?_ | with_reducible refine k_par ?_ | with_reducible refine k_tup ?_
      | with_reducible refine k_iAny ?_ | with_reducible refine k_iRng1 ?_ | with_reducible refine k_iRng2 ?_ | with_reducible refine k_iEnm ?_ | with_reducible refine k_then_rt ?_ | with_reducible refine k_then_bk ?_ | with_reducible refine k_then_ct ?_ | with_reducible refine k_skip ?_ | with_reducible refine k_break ?_ | with_reducible refine k_cont ?_ | with_reducible refine k_retN ?_
      | with_reducible refine k_e1 ?_ | with_reducible refine k_not ?_ | with_reducible refine k_and ?_ | with_reducible refine k_or ?_ | with_reducible refine k_ifE ?_ | with_reducible refine k_chain ?_ | with_reducible refine k_slice ?_ | with_reducible refine k_oN ?_ | with_reducible refine k_oS ?_ | with_reducible refine k_lc ?_
      | with_reducible refine k_bAnd ?_ | with_reducible refine k_bOr ?_ | with_reducible refine k_bNot ?_ | with_reducible refine k_yes ?_ | with_reducible refine k_onI ?_ | with_reducible refine k_onR ?_ | with_reducible refine k_onL1 ?_ | with_reducible refine k_onL2 ?_ | with_reducible refine k_itT ?_ | with_reducible refine k_itS ?_
      | with_reducible refine k_ends_rt ?_ | with_reducible refine k_ends_nx ?_ | with_reducible refine k_true ?_ | with_reducible refine k_false ?_ | with_reducible refine k_ntrue ?_ | with_reducible refine k_nfalse ?_
      | with_reducible refine k_addI ?_ | with_reducible refine k_subI ?_ | with_reducible refine k_intI ?_ | with_reducible refine k_ltI ?_ | with_reducible refine k_gtI ?_ | with_reducible refine k_leI ?_ | with_reducible refine k_geI ?_ | with_reducible refine k_eqI ?_ | with_reducible refine k_neI ?_ | with_reducible refine k_eqS ?_ | with_reducible refine k_neS ?_ | with_reducible refine k_negI ?_ | with_reducible refine k_notB ?_ | with_reducible refine k_maxI ?_ | with_reducible refine k_minI ?_ | with_reducible refine k_lenS ?_
      | ((with_reducible refine k_mulI ?e ?_); (case e => omega)) | ((with_reducible refine k_divI ?e ?e2 ?_); (case e => omega); (case e2 => omega)) | ((with_reducible refine k_modI ?e ?_); (case e => omega)) | ((with_reducible refine k_powI ?e ?_); (case e => decide))
      | ((with_reducible refine k_lst ?e ?_); (case e => first | decide | (simp; done) | (simp; omega))) | ((with_reducible refine k_tupD ?e ?_); (case e => first | decide | (simp; done)))
      | ((with_reducible refine' k_lenL ?e ?_); (case e => assumption)) | ((with_reducible refine' k_ixL ?e ?e2 ?_); (case e => assumption); (case e2 => first | assumption | rfl)) | ((with_reducible refine' k_ixT ?e2 ?_); (case e2 => first | assumption | rfl)) | ((with_reducible refine' k_itR ?e ?_); (case e => assumption)))
    have pos : 0 < ls.length := List.length_pos_iff.mpr hne
    have lenp : fs.length + ls.length = xs.length := by
      have := pm.length_eq
      simpa using this
    refine (next_sat md.snoc.src (by omega) (by omega)).then fun v g1 q => ?_
    obtain ⟨r, rfl, r0, r1, md1⟩ := q
    repeat (first
      | with_reducible refine k_seq ?_ | ((with_reducible refine k_then_nx ?_); try dsimp only [put]) | with_reducible refine k_e2 ?_ | ((with_reducible refine' k_var ?e ?_); (case e => rfl)) | with_reducible refine k_const ?_
      | with_reducible refine k_set ?_ | with_reducible refine k_if ?_ | with_reducible refine k_ret ?_ | with_reducible refine k_eL ?_ | with_reducible refine k_aCons ?_ | with_reducible refine k_aNil ?_ | with_reducible refine k_bT ?_ | with_reducible refine k_onB ?_
      | with_reducible refine k_call1 ?_ | with_reducible refine k_call2 ?_ | with_reducible refine k_call3 ?_ | with_reducible refine k_expr ?_ | with_reducible refine k_for ?_ | with_reducible refine k_meth ?_ | with_reducible refine k_sub ?_ | with_reducible refine k_par ?_ | with_reducible refine k_tup ?_
      | with_reducible refine k_iAny ?_ | with_reducible refine k_iRng1 ?_ | with_reducible refine k_iRng2 ?_ | with_reducible refine k_iEnm ?_ | with_reducible refine k_then_rt ?_ | with_reducible refine k_then_bk ?_ | with_reducible refine k_then_ct ?_ | with_reducible refine k_skip ?_ | with_reducible refine k_break ?_ | with_reducible refine k_cont ?_ | with_reducible refine k_retN ?_
      | with_reducible refine k_e1 ?_ | with_reducible refine k_not ?_ | with_reducible refine k_and ?_ | with_reducible refine k_or ?_ | with_reducible refine k_ifE ?_ | with_reducible refine k_chain ?_ | with_reducible refine k_slice ?_ | with_reducible refine k_oN ?_ | with_reducible refine k_oS ?_ | with_reducible refine k_lc ?_
      | with_reducible refine k_bAnd ?_ | with_reducible refine k_bOr ?_ | with_reducible refine k_bNot ?_ | with_reducible refine k_yes ?_ | with_reducible refine k_onI ?_ | with_reducible refine k_onR ?_ | with_reducible refine k_onL1 ?_ | with_reducible refine k_onL2 ?_ | with_reducible refine k_itT ?_ | with_reducible refine k_itS ?_
      | with_reducible refine k_ends_rt ?_ | with_reducible refine k_ends_nx ?_ | with_reducible refine k_true ?_ | with_reducible refine k_false ?_ | with_reducible refine k_ntrue ?_ | with_reducible refine k_nfalse ?_
      | with_reducible refine k_addI ?_ | with_reducible refine k_subI ?_ | with_reducible refine k_intI ?_ | with_reducible refine k_ltI ?_ | with_reducible refine k_gtI ?_ | with_reducible refine k_leI ?_ | with_reducible refine k_geI ?_ | with_reducible refine k_eqI ?_ | with_reducible refine k_neI ?_ | with_reducible refine k_eqS ?_ | with_reducible refine k_neS ?_ | with_reducible refine k_negI ?_ | with_reducible refine k_notB ?_ | with_reducible refine k_maxI ?_ | with_reducible refine k_minI ?_ | with_reducible refine k_lenS ?_
      | ((with_reducible refine k_mulI ?e ?_); (case e => omega)) | ((with_reducible refine k_divI ?e ?e2 ?_); (case e => omega); (case e2 => omega)) | ((with_reducible refine k_modI ?e ?_); (case e => omega)) | ((with_reducible refine k_powI ?e ?_); (case e => decide))
      | ((with_reducible refine k_lst ?e ?_); (case e => first | decide | (simp; done) | (simp; omega))) | ((with_reducible refine k_tupD ?e ?_); (case e => first | decide | (simp; done)))
      | ((with_reducible refine' k_lenL ?e ?_); (case e => assumption)) | ((with_reducible refine' k_ixL ?e ?e2 ?_); (case e => assumption); (case e2 => first | assumption | rfl)) | ((with_reducible refine' k_ixT ?e2 ?_); (case e2 => first | assumption | rfl)) | ((with_reducible refine' k_itR ?e ?_); (case e => assumption)))
    obtain ⟨i, rfl⟩ := Int.eq_ofNat_of_zero_le r0
    have hi : i < ls.length := by omega
    have e1'' := md1.lst e1' (by omega)
    have e2'' := md1.lst e2' (by omega)
    refine k_popAt e1'' (List.getElem?_eq_getElem hi) (by omega) ?_
    have e2n := lst_ne (o := .lst (ls.eraseIdx i)) e2'' (show h.length ≠ h.length + 1 by omega)
    repeat (first
      | with_reducible refine k_seq ?_ | ((with_reducible refine k_then_nx ?_); try dsimp only [put]) | with_reducible refine k_e2 ?_ | ((with_reducible refine' k_var ?e ?_); (case e => rfl)) | with_reducible refine k_const ?_
      | with_reducible refine k_set ?_ | with_reducible refine k_if ?_ | with_reducible refine k_ret ?_ | with_reducible refine k_eL ?_ | with_reducible refine k_aCons ?_ | with_reducible refine k_aNil ?_ | with_reducible refine k_bT ?_ | with_reducible refine k_onB ?_
      | with_reducible refine k_call1 ?_ | with_reducible refine k_call2 ?_ | with_reducible refine k_call3 ?_ | with_reducible refine k_expr ?_ | with_reducible refine k_for ?_ | with_reducible refine k_meth ?_ | with_reducible refine k_sub ?_ | with_reducible refine k_par ?_ | with_reducible refine k_tup ?_
      | with_reducible refine k_iAny ?_ | with_reducible refine k_iRng1 ?_ | with_reducible refine k_iRng2 ?_ | with_reducible refine k_iEnm ?_ | with_reducible refine k_then_rt ?_ | with_reducible refine k_then_bk ?_ | with_reducible refine k_then_ct ?_ | with_reducible refine k_skip ?_ | with_reducible refine k_break ?_ | with_reducible refine k_cont ?_ | with_reducible refine k_retN ?_
      | with_reducible refine k_e1 ?_ | with_reducible refine k_not ?_ | with_reducible refine k_and ?_ | with_reducible refine k_or ?_ | with_reducible refine k_ifE ?_ | with_reducible refine k_chain ?_ | with_reducible refine k_slice ?_ | with_reducible refine k_oN ?_ | with_reducible refine k_oS ?_ | with_reducible refine k_lc ?_
      | with_reducible refine k_bAnd ?_ | with_reducible refine k_bOr ?_ | with_reducible refine k_bNot ?_ | with_reducible refine k_yes ?_ | with_reducible refine k_onI ?_ | with_reducible refine k_onR ?_ | with_reducible refine k_onL1 ?_ | with_reducible refine k_onL2 ?_ | with_reducible refine k_itT ?_ | with_reducible refine k_itS ?_
      | with_reducible refine k_ends_rt ?_ | with_reducible refine k_ends_nx ?_ | with_reducible refine k_true ?_ | with_reducible refine k_false ?_ | with_reducible refine k_ntrue ?_ | with_reducible refine k_nfalse ?_
      | with_reducible refine k_addI ?_ | with_reducible refine k_subI ?_ | with_reducible refine k_intI ?_ | with_reducible refine k_ltI ?_ | with_reducible refine k_gtI ?_ | with_reducible refine k_leI ?_ | with_reducible refine k_geI ?_ | with_reducible refine k_eqI ?_ | with_reducible refine k_neI ?_ | with_reducible refine k_eqS ?_ | with_reducible refine k_neS ?_ | with_reducible refine k_negI ?_ | with_reducible refine k_notB ?_ | with_reducible refine k_maxI ?_ | with_reducible refine k_minI ?_ | with_reducible refine k_lenS ?_
      | ((with_reducible refine k_mulI ?e ?_); (case e => omega)) | ((with_reducible refine k_divI ?e ?e2 ?_); (case e => omega); (case e2 => omega)) | ((with_reducible refine k_modI ?e ?_); (case e => omega)) | ((with_reducible refine k_powI ?e ?_); (case e => decide))
      | ((with_reducible refine k_lst ?e ?_); (case e => first | decide | (simp; done) | (simp; omega))) | ((with_reducible refine k_tupD ?e ?_); (case e => first | decide | (simp; done)))
      | ((with_reducible refine' k_lenL ?e ?_); (case e => assumption)) | ((with_reducible refine' k_ixL ?e ?e2 ?_); (case e => assumption); (case e2 => first | assumption | rfl)) | ((with_reducible refine' k_ixT ?e2 ?_); (case e2 => first | assumption | rfl)) | ((with_reducible refine' k_itR ?e ?_); (case e => assumption)))
    refine k_append e2n (by omega) ?_
    repeat (first
      | with_reducible refine k_seq ?_ | ((with_reducible refine k_then_nx ?_); try dsimp only [put]) | with_reducible refine k_e2 ?_ | ((with_reducible refine' k_var ?e ?_); (case e => rfl)) | with_reducible refine k_const ?_
      | with_reducible refine k_set ?_ | with_reducible refine k_if ?_ | with_reducible refine k_ret ?_ | with_reducible refine k_eL ?_ | with_reducible refine k_aCons ?_ | with_reducible refine k_aNil ?_ | with_reducible refine k_bT ?_ | with_reducible refine k_onB ?_
      | with_reducible refine k_call1 ?_ | with_reducible refine k_call2 ?_ | with_reducible refine k_call3 ?_ | with_reducible refine k_expr ?_ | with_reducible refine k_for ?_ | with_reducible refine k_meth ?_ | with_reducible refine k_sub ?_ | with_reducible refine k_par ?_ | with_reducible refine k_tup ?_
      | with_reducible refine k_iAny ?_ | with_reducible refine k_iRng1 ?_ | with_reducible refine k_iRng2 ?_ | with_reducible refine k_iEnm ?_ | with_reducible refine k_then_rt ?_ | with_reducible refine k_then_bk ?_ | with_reducible refine k_then_ct ?_ | with_reducible refine k_skip ?_ | with_reducible refine k_break ?_ | with_reducible refine k_cont ?_ | with_reducible refine k_retN ?_
      | with_reducible refine k_e1 ?_ | with_reducible refine k_not ?_ | with_reducible refine k_and ?_ | with_reducible refine k_or ?_ | with_reducible refine k_ifE ?_ | with_reducible refine k_chain ?_ | with_reducible refine k_slice ?_ | with_reducible refine k_oN ?_ | with_reducible refine k_oS ?_ | with_reducible refine k_lc ?_
      | with_reducible refine k_bAnd ?_ | with_reducible refine k_bOr ?_ | with_reducible refine k_bNot ?_ | with_reducible refine k_yes ?_ | with_reducible refine k_onI ?_ | with_reducible refine k_onR ?_ | with_reducible refine k_onL1 ?_ | with_reducible refine k_onL2 ?_ | with_reducible refine k_itT ?_ | with_reducible refine k_itS ?_
      | with_reducible refine k_ends_rt ?_ | with_reducible refine k_ends_nx ?_ | with_reducible refine k_true ?_ | with_reducible refine k_false ?_ | with_reducible refine k_ntrue ?_ | with_reducible refine k_nfalse ?_
      | with_reducible refine k_addI ?_ | with_reducible refine k_subI ?_ | with_reducible refine k_intI ?_ | with_reducible refine k_ltI ?_ | with_reducible refine k_gtI ?_ | with_reducible refine k_leI ?_ | with_reducible refine k_geI ?_ | with_reducible refine k_eqI ?_ | with_reducible refine k_neI ?_ | with_reducible refine k_eqS ?_ | with_reducible refine k_neS ?_ | with_reducible refine k_negI ?_ | with_reducible refine k_notB ?_ | with_reducible refine k_maxI ?_ | with_reducible refine k_minI ?_ | with_reducible refine k_lenS ?_
      | ((with_reducible refine k_mulI ?e ?_); (case e => omega)) | ((with_reducible refine k_divI ?e ?e2 ?_); (case e => omega); (case e2 => omega)) | ((with_reducible refine k_modI ?e ?_); (case e => omega)) | ((with_reducible refine k_powI ?e ?_); (case e => decide))
      | ((with_reducible refine k_lst ?e ?_); (case e => first | decide | (simp; done) | (simp; omega))) | ((with_reducible refine k_tupD ?e ?_); (case e => first | decide | (simp; done)))
      | ((with_reducible refine' k_lenL ?e ?_); (case e => assumption)) | ((with_reducible refine' k_ixL ?e ?e2 ?_); (case e => assumption); (case e2 => first | assumption | rfl)) | ((with_reducible refine' k_ixT ?e2 ?_); (case e2 => first | assumption | rfl)) | ((with_reducible refine' k_itR ?e ?_); (case e => assumption)))
    have e1n := lst_ne (o := .lst (fs ++ [ls[i]])) (lst_set (ys := ls.eraseIdx i) e1'') (show h.length + 1 ≠ h.length by omega)
    refine ⟨⟨ls.eraseIdx i, fs ++ [ls[i]], rfl, e1n, lst_set e2n, ?_, ?_⟩, ?_⟩
    · refine List.Perm.trans ?_ pm
      rw [List.append_assoc]
      refine List.Perm.append_left _ ?_
      exact perm_erase ls i hi
    · exact ((md.snoc.trans md1).put (by omega) (by omega)).put (by omega) (by omega)
    · rw [e1n, e1]
      simp only [Option.getD_some, List.length_eraseIdx, hi, if_true]
      omega
  · repeat (first
      | with_reducible refine k_seq ?_ | ((with_reducible refine k_then_nx ?_); try dsimp only [put]) | with_reducible refine k_e2 ?_ | ((with_reducible refine' k_var ?e ?_); (case e => rfl)) | with_reducible refine k_const ?_
      | with_reducible refine k_set ?_ | with_reducible refine k_if ?_ | with_reducible refine k_ret ?_ | with_reducible refine k_eL ?_ | with_reducible refine k_aCons ?_ | with_reducible refine k_aNil ?_ | with_reducible refine k_bT ?_ | with_reducible refine k_onB ?_
      | with_reducible refine k_call1 ?_ | with_reducible refine k_call2 ?_ | with_reducible refine k_call3 ?_ | with_reducible refine k_expr ?_ | with_reducible refine k_for ?_ | with_reducible refine k_meth ?_ | with_reducible refine k_sub ?_ | with_reducible refine k_par ?_ | with_reducible refine k_tup ?_
      | with_reducible refine k_iAny ?_ | with_reducible refine k_iRng1 ?_ | with_reducible refine k_iRng2 ?_ | with_reducible refine k_iEnm ?_ | with_reducible refine k_then_rt ?_ | with_reducible refine k_then_bk ?_ | with_reducible refine k_then_ct ?_ | with_reducible refine k_skip ?_ | with_reducible refine k_break ?_ | with_reducible refine k_cont ?_ | with_reducible refine k_retN ?_
      | with_reducible refine k_e1 ?_ | with_reducible refine k_not ?_ | with_reducible refine k_and ?_ | with_reducible refine k_or ?_ | with_reducible refine k_ifE ?_ | with_reducible refine k_chain ?_ | with_reducible refine k_slice ?_ | with_reducible refine k_oN ?_ | with_reducible refine k_oS ?_ | with_reducible refine k_lc ?_
      | with_reducible refine k_bAnd ?_ | with_reducible refine k_bOr ?_ | with_reducible refine k_bNot ?_ | with_reducible refine k_yes ?_ | with_reducible refine k_onI ?_ | with_reducible refine k_onR ?_ | with_reducible refine k_onL1 ?_ | with_reducible refine k_onL2 ?_ | with_reducible refine k_itT ?_ | with_reducible refine k_itS ?_
      | with_reducible refine k_ends_rt ?_ | with_reducible refine k_ends_nx ?_ | with_reducible refine k_true ?_ | with_reducible refine k_false ?_ | with_reducible refine k_ntrue ?_ | with_reducible refine k_nfalse ?_
      | with_reducible refine k_addI ?_ | with_reducible refine k_subI ?_ | with_reducible refine k_intI ?_ | with_reducible refine k_ltI ?_ | with_reducible refine k_gtI ?_ | with_reducible refine k_leI ?_ | with_reducible refine k_geI ?_ | with_reducible refine k_eqI ?_ | with_reducible refine k_neI ?_ | with_reducible refine k_eqS ?_ | with_reducible refine k_neS ?_ | with_reducible refine k_negI ?_ | with_reducible refine k_notB ?_ | with_reducible refine k_maxI ?_ | with_reducible refine k_minI ?_ | with_reducible refine k_lenS ?_
      | ((with_reducible refine k_mulI ?e ?_); (case e => omega)) | ((with_reducible refine k_divI ?e ?e2 ?_); (case e => omega); (case e2 => omega)) | ((with_reducible refine k_modI ?e ?_); (case e => omega)) | ((with_reducible refine k_powI ?e ?_); (case e => decide))
      | ((with_reducible refine k_lst ?e ?_); (case e => first | decide | (simp; done) | (simp; omega))) | ((with_reducible refine k_tupD ?e ?_); (case e => first | decide | (simp; done)))
      | ((with_reducible refine' k_lenL ?e ?_); (case e => assumption)) | ((with_reducible refine' k_ixL ?e ?e2 ?_); (case e => assumption); (case e2 => first | assumption | rfl)) | ((with_reducible refine' k_ixT ?e2 ?_); (case e2 => first | assumption | rfl)) | ((with_reducible refine' k_itR ?e ?_); (case e => assumption)))
    subst hnil
    exact ⟨_, fs, rfl, by omega, e2', by simpa using pm, md.snoc⟩
end Pg
namespace Pg
open PySem PySem.Spec L2 Mi
/-- [[x] + rest for rest in lists] -/
theorem cons_lc {Q : Pv → Hh → Prop} {E : XX} {h1 : Hh} {b r p : Nat} {xs : List Str} {i : Nat} {yss : List (List Str)} {σ0 : Sg} (er : LLF b h1 r yss) (ep : LS h1 p xs) (hi : i < xs.length) (hl : yss.length < 100000) (hs : ∀ ys ∈ yss, ys.length < 1000)
    (s0 : slot σ0 0 = some (.ref p)) (s3 : slot σ0 3 = some (.int (0 + i))) (s5 : 4 < σ0.length)
    (fin : ∀ h' q, q = h1.length → Ext h1 h' → LLF h1.length h' q (yss.map (xs.getD i "" :: ·)) → Q (.ref q) h') :
    Sat (lcF (.lst r) (.one 4) bYes (e2 addO (eL lstO (aCons (e2 ixO (eVar 0) (eVar 3)) aNil)) (eVar 4)) h1.length σ0 fuelN 0 (h1 ++ [.lst []])) Q E := by
  obtain ⟨vs0, er1, al0⟩ := er
  have lv := al0.length
  refine st_lcL (fun _ => true) (fun h x v => ∃ q', v = .ref q' ∧ h1.length < q' ∧ ∀ q ys, x = .ref q → LS h1 q ys → LS h q' (xs.getD i "" :: ys)) er1 (by omega) ?_ ?_ ?_
  · intro h h' x v r bey
    obtain ⟨q', e1, lt, f⟩ := r
    exact ⟨q', e1, lt, fun q ys e2 e3 => bey.lst (f q ys e2 e3) (by omega)⟩
  · intro x h hx xt lt
    obtain ⟨j, hj, ej⟩ := List.getElem_of_mem hx
    obtain ⟨ys, ey, q, rfl, bq, eq⟩ : ∃ ys, yss[j]? = some ys ∧ LRF b h1 x ys := by
      obtain ⟨ys, e1, e2⟩ := al0.get (i := j) (by rw [List.getElem?_eq_getElem hj, ej])
      exact ⟨ys, e1, e2⟩
    have hys : ys.length < 1000 := hs ys (List.mem_of_getElem? ey)
    refine ⟨put 4 (.ref q) σ0, by simp [Tg.put, put_eq], ?_⟩
    repeat (first
      | with_reducible refine k_seq ?_ | ((with_reducible refine k_then_nx ?_); try dsimp only [put]) | with_reducible refine k_e2 ?_ | ((with_reducible refine' k_var ?e ?_); (case e => rfl)) | with_reducible refine k_const ?_
      | with_reducible refine k_set ?_ | with_reducible refine k_if ?_ | with_reducible refine k_ret ?_ | with_reducible refine k_eL ?_ | with_reducible refine k_aCons ?_ | with_reducible refine k_aNil ?_ | with_reducible refine k_bT ?_ | with_reducible refine k_onB ?_
      | with_reducible refine k_call1 ?_ | with_reducible refine k_call2 ?_ | with_reducible refine k_call3 ?_ | with_reducible refine k_expr ?_ | with_reducible refine k_for ?_ | with_reducible refine k_meth ?_ | with_reducible refine k_sub ?_ | with_reducible refine k_par ?_ | with_reducible refine k_tup ?_
      | with_reducible refine k_iAny ?_ | with_reducible refine k_iRng1 ?_ | with_reducible refine k_iRng2 ?_ | with_reducible refine k_iEnm ?_ | with_reducible refine k_then_rt ?_ | with_reducible refine k_then_bk ?_ | with_reducible refine k_then_ct ?_ | with_reducible refine k_skip ?_ | with_reducible refine k_break ?_ | with_reducible refine k_cont ?_ | with_reducible refine k_retN ?_
      | with_reducible refine k_e1 ?_ | with_reducible refine k_not ?_ | with_reducible refine k_and ?_ | with_reducible refine k_or ?_ | with_reducible refine k_ifE ?_ | with_reducible refine k_chain ?_ | with_reducible refine k_slice ?_ | with_reducible refine k_oN ?_ | with_reducible refine k_oS ?_ | with_reducible refine k_lc ?_
      | with_reducible refine k_bAnd ?_ | with_reducible refine k_bOr ?_ | with_reducible refine k_bNot ?_ | with_reducible refine k_yes ?_ | with_reducible refine k_onI ?_ | with_reducible refine k_onR ?_ | with_reducible refine k_onL1 ?_ | with_reducible refine k_onL2 ?_ | with_reducible refine k_itT ?_ | with_reducible refine k_itS ?_
      | with_reducible refine k_ends_rt ?_ | with_reducible refine k_ends_nx ?_ | with_reducible refine k_true ?_ | with_reducible refine k_false ?_ | with_reducible refine k_ntrue ?_ | with_reducible refine k_nfalse ?_
      | with_reducible refine k_addI ?_ | with_reducible refine k_subI ?_ | with_reducible refine k_intI ?_ | with_reducible refine k_ltI ?_ | with_reducible refine k_gtI ?_ | with_reducible refine k_leI ?_ | with_reducible refine k_geI ?_ | with_reducible refine k_eqI ?_ | with_reducible refine k_neI ?_ | with_reducible refine k_eqS ?_ | with_reducible refine k_neS ?_ | with_reducible refine k_negI ?_ | with_reducible refine k_notB ?_ | with_reducible refine k_maxI ?_ | with_reducible refine k_minI ?_ | with_reducible refine k_lenS ?_
      | ((with_reducible refine k_mulI ?e ?_); (case e => omega)) | ((with_reducible refine k_divI ?e ?e2 ?_); (case e => omega); (case e2 => omega)) | ((with_reducible refine k_modI ?e ?_); (case e => omega)) | ((with_reducible refine k_powI ?e ?_); (case e => decide))
      | ((with_reducible refine k_lst ?e ?_); (case e => first | decide | (simp; done) | (simp; omega))) | ((with_reducible refine k_tupD ?e ?_); (case e => first | decide | (simp; done)))
      | ((with_reducible refine' k_lenL ?e ?_); (case e => assumption)) | ((with_reducible refine' k_ixL ?e ?e2 ?_); (case e => assumption); (case e2 => first | assumption | rfl)) | ((with_reducible refine' k_ixT ?e2 ?_); (case e2 => first | assumption | rfl)) | ((with_reducible refine' k_itR ?e ?_); (case e => assumption)))
    refine ⟨rfl, Ext.refl, fun _ => ?_⟩
    have sl : ∀ k, k < 4 → slot (put 4 (.ref q) σ0) k = slot σ0 k := by
      intro k hk
      match σ0, s5 with
      | [], s5 => simp at s5
      | [_], s5 => simp at s5
      | [_, _], s5 => simp at s5
      | [_, _, _], s5 => simp at s5
      | [_, _, _, _], s5 => simp at s5
      | _ :: _ :: _ :: _ :: _ :: _, _ =>
        match k, hk with
        | 0, _ => rfl
        | 1, _ => rfl
        | 2, _ => rfl
        | 3, _ => rfl
    have s4 : slot (put 4 (.ref q) σ0) 4 = some (.ref q) := by
      match σ0, s5 with
      | [], s5 => simp at s5
      | [_], s5 => simp at s5
      | [_, _], s5 => simp at s5
      | [_, _, _], s5 => simp at s5
      | [_, _, _, _], s5 => simp at s5
      | _ :: _ :: _ :: _ :: _ :: _, _ => rfl
    have ep' := ep.ext xt
    have eq' := eq.ext xt
    refine k_e2 (k_eL (k_aCons (k_e2 (k_var ((sl 0 (by omega)).trans s0) (k_var ((sl 3 (by omega)).trans s3) (k_ixL (v := .str (xs.getD i "")) ep' ?_ (k_aNil (k_lst (by simp) (k_var s4 (k_addL lst_new (lst_old eq') (by simp; omega) ?_)))))))))) 
    · rw [show (0 : Int) + (i : Int) = (i : Int) by omega]
      refine atI_nat ?_
      rw [List.getElem?_map, List.getElem?_eq_getElem hi]
      simp [hi]
    · refine ⟨⟨_, rfl, by simp; omega, fun q2 ys2 e2 e3 => ?_⟩, Ext.refl.snoc.snoc⟩
      cases e2
      have : ys2 = ys := svs_inj (Option.some.inj ((show lstAt h1 q = _ from e3).symm.trans eq))
      subst this
      exact lst_new
  · intro h' vs xt lt e1 al
    refine fin h' _ rfl xt ⟨vs, e1, ?_⟩
    rw [List.filter_eq_self.mpr (fun _ _ => rfl)] at al
    refine All2.map_right ((All2.comp al al0).imp fun v ys z => ?_)
    obtain ⟨x, ⟨q', e2, lt2, f⟩, q, e3, _, e4⟩ := z
    exact ⟨q', e2, by omega, f q ys e3 e4⟩
theorem cmb_mem_len (m : Nat) : ∀ (xs ys : List Str), ys ∈ cmb m xs → ys.length = m := by
  induction m with
  | zero => intro xs ys h; simp [cmb] at h; rw [h]; rfl
  | succ m ih =>
    intro xs ys h
    simp only [cmb, List.mem_flatMap, List.mem_map] at h
    obtain ⟨i, _, zs, hz, rfl⟩ := h
    simp [ih _ _ hz]
theorem some_of_sat : ∀ (n m : Nat) (xs : List Str) (h : Hh) (p : Nat), LS h p xs → xs.length ≤ 30 → m < n → m ≤ 3 → Sat (d_some_of n [.ref p, .int m] h) (fun v h' => ∃ q, v = .ref q ∧ h.length ≤ q ∧ LLF h.length h' q (cmb m xs) ∧ Ext h h') NoX
  | 0, m, _, _, _, _, _, hn, _ => absurd hn (Nat.not_lt_zero _)
  | n + 1, m, xs, h, p, ep, hx, hn, hm => by
    unfold d_some_of
    refine st_fn' (σ0 := [some (.ref p), some (.int m), none, none, none]) rfl ?_
    repeat (first
      | with_reducible refine k_seq ?_ | ((with_reducible refine k_then_nx ?_); try dsimp only [put]) | with_reducible refine k_e2 ?_ | ((with_reducible refine' k_var ?e ?_); (case e => rfl)) | with_reducible refine k_const ?_
      | with_reducible refine k_set ?_ | with_reducible refine k_if ?_ | with_reducible refine k_ret ?_ | with_reducible refine k_eL ?_ | with_reducible refine k_aCons ?_ | with_reducible refine k_aNil ?_ | with_reducible refine k_bT ?_ | with_reducible refine k_onB ?_
      | with_reducible refine k_call1 ?_ | with_reducible refine k_call2 ?_ | with_reducible refine k_call3 ?_ | with_reducible refine k_expr ?_ | with_reducible refine k_for ?_ | with_reducible refine k_meth ?_ | with_reducible refine k_sub ?_ | with_reducible refine k_par ?_ | with_reducible refine k_tup ?_
      | with_reducible refine k_iAny ?_ | with_reducible refine k_iRng1 ?_ | with_reducible refine k_iRng2 ?_ | with_reducible refine k_iEnm ?_ | with_reducible refine k_then_rt ?_ | with_reducible refine k_then_bk ?_ | with_reducible refine k_then_ct ?_ | with_reducible refine k_skip ?_ | with_reducible refine k_break ?_ | with_reducible refine k_cont ?_ | with_reducible refine k_retN ?_
      | with_reducible refine k_e1 ?_ | with_reducible refine k_not ?_ | with_reducible refine k_and ?_ | with_reducible refine k_or ?_ | with_reducible refine k_ifE ?_ | with_reducible refine k_chain ?_ | with_reducible refine k_slice ?_ | with_reducible refine k_oN ?_ | with_reducible refine k_oS ?_ | with_reducible refine k_lc ?_
      | with_reducible refine k_bAnd ?_ | with_reducible refine k_bOr ?_ | with_reducible refine k_bNot ?_ | with_reducible refine k_yes ?_ | with_reducible refine k_onI ?_ | with_reducible refine k_onR ?_ | with_reducible refine k_onL1 ?_ | with_reducible refine k_onL2 ?_ | with_reducible refine k_itT ?_ | with_reducible refine k_itS ?_
      | with_reducible refine k_ends_rt ?_ | with_reducible refine k_ends_nx ?_ | with_reducible refine k_true ?_ | with_reducible refine k_false ?_ | with_reducible refine k_ntrue ?_ | with_reducible refine k_nfalse ?_
      | with_reducible refine k_addI ?_ | with_reducible refine k_subI ?_ | with_reducible refine k_intI ?_ | with_reducible refine k_ltI ?_ | with_reducible refine k_gtI ?_ | with_reducible refine k_leI ?_ | with_reducible refine k_geI ?_ | with_reducible refine k_eqI ?_ | with_reducible refine k_neI ?_ | with_reducible refine k_eqS ?_ | with_reducible refine k_neS ?_ | with_reducible refine k_negI ?_ | with_reducible refine k_notB ?_ | with_reducible refine k_maxI ?_ | with_reducible refine k_minI ?_ | with_reducible refine k_lenS ?_
      | ((with_reducible refine k_mulI ?e ?_); (case e => omega)) | ((with_reducible refine k_divI ?e ?e2 ?_); (case e => omega); (case e2 => omega)) | ((with_reducible refine k_modI ?e ?_); (case e => omega)) | ((with_reducible refine k_powI ?e ?_); (case e => decide))
      | ((with_reducible refine k_lst ?e ?_); (case e => first | decide | (simp; done) | (simp; omega))) | ((with_reducible refine k_tupD ?e ?_); (case e => first | decide | (simp; done)))
      | ((with_reducible refine' k_lenL ?e ?_); (case e => assumption)) | ((with_reducible refine' k_ixL ?e ?e2 ?_); (case e => assumption); (case e2 => first | assumption | rfl)) | ((with_reducible refine' k_ixT ?e2 ?_); (case e2 => first | assumption | rfl)) | ((with_reducible refine' k_itR ?e ?_); (case e => assumption)))
    refine k_dec (fun hp => ?_) fun hne => ?_
    · have : m = 0 := by omega
      subst this
      repeat (first
        | with_reducible refine k_seq ?_ | ((with_reducible refine k_then_nx ?_); try dsimp only [put]) | with_reducible refine k_e2 ?_ | ((with_reducible refine' k_var ?e ?_); (case e => rfl)) | with_reducible refine k_const ?_
        | with_reducible refine k_set ?_ | with_reducible refine k_if ?_ | with_reducible refine k_ret ?_ | with_reducible refine k_eL ?_ | with_reducible refine k_aCons ?_ | with_reducible refine k_aNil ?_ | with_reducible refine k_bT ?_ | with_reducible refine k_onB ?_
        | with_reducible refine k_call1 ?_ | with_reducible refine k_call2 ?_ | with_reducible refine k_call3 ?_ | with_reducible refine k_expr ?_ | with_reducible refine k_for ?_ | with_reducible refine k_meth ?_ | with_reducible refine k_sub ?_ | with_reducible refine k_par ?_ | with_reducible refine k_tup ?_
        | with_reducible refine k_iAny ?_ | with_reducible refine k_iRng1 ?_ | with_reducible refine k_iRng2 ?_ | with_reducible refine k_iEnm ?_ | with_reducible refine k_then_rt ?_ | with_reducible refine k_then_bk ?_ | with_reducible refine k_then_ct ?_ | with_reducible refine k_skip ?_ | with_reducible refine k_break ?_ | with_reducible refine k_cont ?_ | with_reducible refine k_retN ?_
        | with_reducible refine k_e1 ?_ | with_reducible refine k_not ?_ | with_reducible refine k_and ?_ | with_reducible refine k_or ?_ | with_reducible refine k_ifE ?_ | with_reducible refine k_chain ?_ | with_reducible refine k_slice ?_ | with_reducible refine k_oN ?_ | with_reducible refine k_oS ?_ | with_reducible refine k_lc ?_
        | with_reducible refine k_bAnd ?_ | with_reducible refine k_bOr ?_ | with_reducible refine k_bNot ?_ | with_reducible refine k_yes ?_ | with_reducible refine k_onI ?_ | with_reducible refine k_onR ?_ | with_reducible refine k_onL1 ?_ | with_reducible refine k_onL2 ?_ | with_reducible refine k_itT ?_ | with_reducible refine k_itS ?_
        | with_reducible refine k_ends_rt ?_ | with_reducible refine k_ends_nx ?_ | with_reducible refine k_true ?_ | with_reducible refine k_false ?_ | with_reducible refine k_ntrue ?_ | with_reducible refine k_nfalse ?_
        | with_reducible refine k_addI ?_ | with_reducible refine k_subI ?_ | with_reducible refine k_intI ?_ | with_reducible refine k_ltI ?_ | with_reducible refine k_gtI ?_ | with_reducible refine k_leI ?_ | with_reducible refine k_geI ?_ | with_reducible refine k_eqI ?_ | with_reducible refine k_neI ?_ | with_reducible refine k_eqS ?_ | with_reducible refine k_neS ?_ | with_reducible refine k_negI ?_ | with_reducible refine k_notB ?_ | with_reducible refine k_maxI ?_ | with_reducible refine k_minI ?_ | with_reducible refine k_lenS ?_
        | ((with_reducible refine k_mulI ?e ?_); (case e => omega)) | ((with_reducible refine k_divI ?e ?e2 ?_); (case e => omega); (case e2 => omega)) | ((with_reducible refine k_modI ?e ?_); (case e => omega)) | ((with_reducible refine k_powI ?e ?_); (case e => decide))
        | ((with_reducible refine k_lst ?e ?_); (case e => first | decide | (simp; done) | (simp; omega))) | ((with_reducible refine k_tupD ?e ?_); (case e => first | decide | (simp; done)))
        | ((with_reducible refine' k_lenL ?e ?_); (case e => assumption)) | ((with_reducible refine' k_ixL ?e ?e2 ?_); (case e => assumption); (case e2 => first | assumption | rfl)) | ((with_reducible refine' k_ixT ?e2 ?_); (case e2 => first | assumption | rfl)) | ((with_reducible refine' k_itR ?e ?_); (case e => assumption)))
      refine ⟨_, rfl, by simp, ⟨_, lst_new, .cons ⟨h.length, rfl, Nat.le_refl _, lst_old lst_new⟩ .nil⟩, Ext.refl.snoc.snoc⟩
    · obtain ⟨k, rfl⟩ : ∃ k, m = k + 1 := ⟨m - 1, by omega⟩
      repeat (first
        | with_reducible refine k_seq ?_ | ((with_reducible refine k_then_nx ?_); try dsimp only [put]) | with_reducible refine k_e2 ?_ | ((with_reducible refine' k_var ?e ?_); (case e => rfl)) | with_reducible refine k_const ?_
        | with_reducible refine k_set ?_ | with_reducible refine k_if ?_ | with_reducible refine k_ret ?_ | with_reducible refine k_eL ?_ | with_reducible refine k_aCons ?_ | with_reducible refine k_aNil ?_ | with_reducible refine k_bT ?_ | with_reducible refine k_onB ?_
        | with_reducible refine k_call1 ?_ | with_reducible refine k_call2 ?_ | with_reducible refine k_call3 ?_ | with_reducible refine k_expr ?_ | with_reducible refine k_for ?_ | with_reducible refine k_meth ?_ | with_reducible refine k_sub ?_ | with_reducible refine k_par ?_ | with_reducible refine k_tup ?_
        | with_reducible refine k_iAny ?_ | with_reducible refine k_iRng1 ?_ | with_reducible refine k_iRng2 ?_ | with_reducible refine k_iEnm ?_ | with_reducible refine k_then_rt ?_ | with_reducible refine k_then_bk ?_ | with_reducible refine k_then_ct ?_ | with_reducible refine k_skip ?_ | with_reducible refine k_break ?_ | with_reducible refine k_cont ?_ | with_reducible refine k_retN ?_
        | with_reducible refine k_e1 ?_ | with_reducible refine k_not ?_ | with_reducible refine k_and ?_ | with_reducible refine k_or ?_ | with_reducible refine k_ifE ?_ | with_reducible refine k_chain ?_ | with_reducible refine k_slice ?_ | with_reducible refine k_oN ?_ | with_reducible refine k_oS ?_ | with_reducible refine k_lc ?_
        | with_reducible refine k_bAnd ?_ | with_reducible refine k_bOr ?_ | with_reducible refine k_bNot ?_ | with_reducible refine k_yes ?_ | with_reducible refine k_onI ?_ | with_reducible refine k_onR ?_ | with_reducible refine k_onL1 ?_ | with_reducible refine k_onL2 ?_ | with_reducible refine k_itT ?_ | with_reducible refine k_itS ?_
        | with_reducible refine k_ends_rt ?_ | with_reducible refine k_ends_nx ?_ | with_reducible refine k_true ?_ | with_reducible refine k_false ?_ | with_reducible refine k_ntrue ?_ | with_reducible refine k_nfalse ?_
        | with_reducible refine k_addI ?_ | with_reducible refine k_subI ?_ | with_reducible refine k_intI ?_ | with_reducible refine k_ltI ?_ | with_reducible refine k_gtI ?_ | with_reducible refine k_leI ?_ | with_reducible refine k_geI ?_ | with_reducible refine k_eqI ?_ | with_reducible refine k_neI ?_ | with_reducible refine k_eqS ?_ | with_reducible refine k_neS ?_ | with_reducible refine k_negI ?_ | with_reducible refine k_notB ?_ | with_reducible refine k_maxI ?_ | with_reducible refine k_minI ?_ | with_reducible refine k_lenS ?_
        | ((with_reducible refine k_mulI ?e ?_); (case e => omega)) | ((with_reducible refine k_divI ?e ?e2 ?_); (case e => omega); (case e2 => omega)) | ((with_reducible refine k_modI ?e ?_); (case e => omega)) | ((with_reducible refine k_powI ?e ?_); (case e => decide))
        | ((with_reducible refine k_lst ?e ?_); (case e => first | decide | (simp; done) | (simp; omega))) | ((with_reducible refine k_tupD ?e ?_); (case e => first | decide | (simp; done)))
        | ((with_reducible refine' k_lenL ?e ?_); (case e => assumption)) | ((with_reducible refine' k_ixL ?e ?e2 ?_); (case e => assumption); (case e2 => first | assumption | rfl)) | ((with_reducible refine' k_ixT ?e2 ?_); (case e2 => first | assumption | rfl)) | ((with_reducible refine' k_itR ?e ?_); (case e => assumption)))
      refine k_lenL (lst_old ep) ?_
      repeat (first
        | with_reducible refine k_seq ?_ | ((with_reducible refine k_then_nx ?_); try dsimp only [put]) | with_reducible refine k_e2 ?_ | ((with_reducible refine' k_var ?e ?_); (case e => rfl)) | with_reducible refine k_const ?_
        | with_reducible refine k_set ?_ | with_reducible refine k_if ?_ | with_reducible refine k_ret ?_ | with_reducible refine k_eL ?_ | with_reducible refine k_aCons ?_ | with_reducible refine k_aNil ?_ | with_reducible refine k_bT ?_ | with_reducible refine k_onB ?_
        | with_reducible refine k_call1 ?_ | with_reducible refine k_call2 ?_ | with_reducible refine k_call3 ?_ | with_reducible refine k_expr ?_ | with_reducible refine k_for ?_ | with_reducible refine k_meth ?_ | with_reducible refine k_sub ?_ | with_reducible refine k_par ?_ | with_reducible refine k_tup ?_
        | with_reducible refine k_iAny ?_ | with_reducible refine k_iRng1 ?_ | with_reducible refine k_iRng2 ?_ | with_reducible refine k_iEnm ?_ | with_reducible refine k_then_rt ?_ | with_reducible refine k_then_bk ?_ | with_reducible refine k_then_ct ?_ | with_reducible refine k_skip ?_ | with_reducible refine k_break ?_ | with_reducible refine k_cont ?_ | with_reducible refine k_retN ?_
        | with_reducible refine k_e1 ?_ | with_reducible refine k_not ?_ | with_reducible refine k_and ?_ | with_reducible refine k_or ?_ | with_reducible refine k_ifE ?_ | with_reducible refine k_chain ?_ | with_reducible refine k_slice ?_ | with_reducible refine k_oN ?_ | with_reducible refine k_oS ?_ | with_reducible refine k_lc ?_
        | with_reducible refine k_bAnd ?_ | with_reducible refine k_bOr ?_ | with_reducible refine k_bNot ?_ | with_reducible refine k_yes ?_ | with_reducible refine k_onI ?_ | with_reducible refine k_onR ?_ | with_reducible refine k_onL1 ?_ | with_reducible refine k_onL2 ?_ | with_reducible refine k_itT ?_ | with_reducible refine k_itS ?_
        | with_reducible refine k_ends_rt ?_ | with_reducible refine k_ends_nx ?_ | with_reducible refine k_true ?_ | with_reducible refine k_false ?_ | with_reducible refine k_ntrue ?_ | with_reducible refine k_nfalse ?_
        | with_reducible refine k_addI ?_ | with_reducible refine k_subI ?_ | with_reducible refine k_intI ?_ | with_reducible refine k_ltI ?_ | with_reducible refine k_gtI ?_ | with_reducible refine k_leI ?_ | with_reducible refine k_geI ?_ | with_reducible refine k_eqI ?_ | with_reducible refine k_neI ?_ | with_reducible refine k_eqS ?_ | with_reducible refine k_neS ?_ | with_reducible refine k_negI ?_ | with_reducible refine k_notB ?_ | with_reducible refine k_maxI ?_ | with_reducible refine k_minI ?_ | with_reducible refine k_lenS ?_
        | ((with_reducible refine k_mulI ?e ?_); (case e => omega)) | ((with_reducible refine k_divI ?e ?e2 ?_); (case e => omega); (case e2 => omega)) | ((with_reducible refine k_modI ?e ?_); (case e => omega)) | ((with_reducible refine k_powI ?e ?_); (case e => decide))
        | ((with_reducible refine k_lst ?e ?_); (case e => first | decide | (simp; done) | (simp; omega))) | ((with_reducible refine k_tupD ?e ?_); (case e => first | decide | (simp; done)))
        | ((with_reducible refine' k_lenL ?e ?_); (case e => assumption)) | ((with_reducible refine' k_ixL ?e ?e2 ?_); (case e => assumption); (case e2 => first | assumption | rfl)) | ((with_reducible refine' k_ixT ?e2 ?_); (case e2 => first | assumption | rfl)) | ((with_reducible refine' k_itR ?e ?_); (case e => assumption)))
      refine ⟨by omega, by simp [svs]; omega, ?_⟩
      have bnd : ∀ i, i ≤ xs.length → ((List.range i).flatMap fun i => (cmb k (xs.drop (i + 1))).map (xs.getD i "" :: ·)).length ≤ i * 30 ^ k := by
        intro i
        induction i with
        | zero => intro _; simp
        | succ i ih =>
          intro hi
          rw [List.range_succ, List.flatMap_append, List.length_append]
          have h1 := ih (by omega)
          have h2 := cmb_len 30 k (xs.drop (i + 1)) (by simp; omega)
          simp only [List.flatMap_singleton, List.length_map]
          rw [Nat.succ_mul]
          omega
      have pw : 30 ^ k ≤ 900 := by
        have : k ≤ 2 := by omega
        exact Nat.le_trans (Nat.pow_le_pow_right (by decide) this) (by decide)
      refine st_forF xs.length (fun i σ g => ∃ f o, σ = [some (.ref p), some (.int ((k + 1 : Nat) : Int)), some (.ref f), o, none] ∧ h.length ≤ f ∧ Ext h g ∧ LLF h.length g f ((List.range i).flatMap fun i => (cmb k (xs.drop (i + 1))).map (xs.getD i "" :: ·)))
        ⟨h.length, none, rfl, Nat.le_refl _, Ext.refl.snoc, [], lst_new, .nil⟩ (by omega) fun i σ g hi w => ?_
      obtain ⟨f, o, rfl, hf, xt, ll⟩ := w
      by_cases hlt : i < xs.length
      · refine .inr ⟨hlt, .int (0 + i), _, ?_, rfl, ?_⟩
        · have : i < (svs xs).length := by simpa [svs] using hlt
          simp only [itAt, Int.toNat_natCast]
          rw [if_pos (by simpa [svs] using hlt)]
        · have ep' := ep.ext xt
          repeat (first
            | with_reducible refine k_seq ?_ | ((with_reducible refine k_then_nx ?_); try dsimp only [put]) | with_reducible refine k_e2 ?_ | ((with_reducible refine' k_var ?e ?_); (case e => rfl)) | with_reducible refine k_const ?_
            | with_reducible refine k_set ?_ | with_reducible refine k_if ?_ | with_reducible refine k_ret ?_ | with_reducible refine k_eL ?_ | with_reducible refine k_aCons ?_ | with_reducible refine k_aNil ?_ | with_reducible refine k_bT ?_ | with_reducible refine k_onB ?_
            | with_reducible refine k_call1 ?_ | with_reducible refine k_call2 ?_ | with_reducible refine k_call3 ?_ | with_reducible refine k_expr ?_ | with_reducible refine k_for ?_ | with_reducible refine k_meth ?_ | with_reducible refine k_sub ?_ | with_reducible refine k_par ?_ | with_reducible refine k_tup ?_
            | with_reducible refine k_iAny ?_ | with_reducible refine k_iRng1 ?_ | with_reducible refine k_iRng2 ?_ | with_reducible refine k_iEnm ?_ | with_reducible refine k_then_rt ?_ | with_reducible refine k_then_bk ?_ | with_reducible refine k_then_ct ?_ | with_reducible refine k_skip ?_ | with_reducible refine k_break ?_ | with_reducible refine k_cont ?_ | with_reducible refine k_retN ?_
            | with_reducible refine k_e1 ?_ | with_reducible refine k_not ?_ | with_reducible refine k_and ?_ | with_reducible refine k_or ?_ | with_reducible refine k_ifE ?_ | with_reducible refine k_chain ?_ | with_reducible refine k_slice ?_ | with_reducible refine k_oN ?_ | with_reducible refine k_oS ?_ | with_reducible refine k_lc ?_
            | with_reducible refine k_bAnd ?_ | with_reducible refine k_bOr ?_ | with_reducible refine k_bNot ?_ | with_reducible refine k_yes ?_ | with_reducible refine k_onI ?_ | with_reducible refine k_onR ?_ | with_reducible refine k_onL1 ?_ | with_reducible refine k_onL2 ?_ | with_reducible refine k_itT ?_ | with_reducible refine k_itS ?_
            | with_reducible refine k_ends_rt ?_ | with_reducible refine k_ends_nx ?_ | with_reducible refine k_true ?_ | with_reducible refine k_false ?_ | with_reducible refine k_ntrue ?_ | with_reducible refine k_nfalse ?_
            | with_reducible refine k_addI ?_ | with_reducible refine k_subI ?_ | with_reducible refine k_intI ?_ | with_reducible refine k_ltI ?_ | with_reducible refine k_gtI ?_ | with_reducible refine k_leI ?_ | with_reducible refine k_geI ?_ | with_reducible refine k_eqI ?_ | with_reducible refine k_neI ?_ | with_reducible refine k_eqS ?_ | with_reducible refine k_neS ?_ | with_reducible refine k_negI ?_ | with_reducible refine k_notB ?_ | with_reducible refine k_maxI ?_ | with_reducible refine k_minI ?_ | with_reducible refine k_lenS ?_
            | ((with_reducible refine k_mulI ?e ?_); (case e => omega)) | ((with_reducible refine k_divI ?e ?e2 ?_); (case e => omega); (case e2 => omega)) | ((with_reducible refine k_modI ?e ?_); (case e => omega)) | ((with_reducible refine k_powI ?e ?_); (case e => decide))
            | ((with_reducible refine k_lst ?e ?_); (case e => first | decide | (simp; done) | (simp; omega))) | ((with_reducible refine k_tupD ?e ?_); (case e => first | decide | (simp; done)))
            | ((with_reducible refine' k_lenL ?e ?_); (case e => assumption)) | ((with_reducible refine' k_ixL ?e ?e2 ?_); (case e => assumption); (case e2 => first | assumption | rfl)) | ((with_reducible refine' k_ixT ?e2 ?_); (case e2 => first | assumption | rfl)) | ((with_reducible refine' k_itR ?e ?_); (case e => assumption)))
          refine k_slL ep' ?_
          repeat (first
            | with_reducible refine k_seq ?_ | ((with_reducible refine k_then_nx ?_); try dsimp only [put]) | with_reducible refine k_e2 ?_ | ((with_reducible refine' k_var ?e ?_); (case e => rfl)) | with_reducible refine k_const ?_
            | with_reducible refine k_set ?_ | with_reducible refine k_if ?_ | with_reducible refine k_ret ?_ | with_reducible refine k_eL ?_ | with_reducible refine k_aCons ?_ | with_reducible refine k_aNil ?_ | with_reducible refine k_bT ?_ | with_reducible refine k_onB ?_
            | with_reducible refine k_call1 ?_ | with_reducible refine k_call2 ?_ | with_reducible refine k_call3 ?_ | with_reducible refine k_expr ?_ | with_reducible refine k_for ?_ | with_reducible refine k_meth ?_ | with_reducible refine k_sub ?_ | with_reducible refine k_par ?_ | with_reducible refine k_tup ?_
            | with_reducible refine k_iAny ?_ | with_reducible refine k_iRng1 ?_ | with_reducible refine k_iRng2 ?_ | with_reducible refine k_iEnm ?_ | with_reducible refine k_then_rt ?_ | with_reducible refine k_then_bk ?_ | with_reducible refine k_then_ct ?_ | with_reducible refine k_skip ?_ | with_reducible refine k_break ?_ | with_reducible refine k_cont ?_ | with_reducible refine k_retN ?_
            | with_reducible refine k_e1 ?_ | with_reducible refine k_not ?_ | with_reducible refine k_and ?_ | with_reducible refine k_or ?_ | with_reducible refine k_ifE ?_ | with_reducible refine k_chain ?_ | with_reducible refine k_slice ?_ | with_reducible refine k_oN ?_ | with_reducible refine k_oS ?_ | with_reducible refine k_lc ?_
            | with_reducible refine k_bAnd ?_ | with_reducible refine k_bOr ?_ | with_reducible refine k_bNot ?_ | with_reducible refine k_yes ?_ | with_reducible refine k_onI ?_ | with_reducible refine k_onR ?_ | with_reducible refine k_onL1 ?_ | with_reducible refine k_onL2 ?_ | with_reducible refine k_itT ?_ | with_reducible refine k_itS ?_
            | with_reducible refine k_ends_rt ?_ | with_reducible refine k_ends_nx ?_ | with_reducible refine k_true ?_ | with_reducible refine k_false ?_ | with_reducible refine k_ntrue ?_ | with_reducible refine k_nfalse ?_
            | with_reducible refine k_addI ?_ | with_reducible refine k_subI ?_ | with_reducible refine k_intI ?_ | with_reducible refine k_ltI ?_ | with_reducible refine k_gtI ?_ | with_reducible refine k_leI ?_ | with_reducible refine k_geI ?_ | with_reducible refine k_eqI ?_ | with_reducible refine k_neI ?_ | with_reducible refine k_eqS ?_ | with_reducible refine k_neS ?_ | with_reducible refine k_negI ?_ | with_reducible refine k_notB ?_ | with_reducible refine k_maxI ?_ | with_reducible refine k_minI ?_ | with_reducible refine k_lenS ?_
            | ((with_reducible refine k_mulI ?e ?_); (case e => omega)) | ((with_reducible refine k_divI ?e ?e2 ?_); (case e => omega); (case e2 => omega)) | ((with_reducible refine k_modI ?e ?_); (case e => omega)) | ((with_reducible refine k_powI ?e ?_); (case e => decide))
            | ((with_reducible refine k_lst ?e ?_); (case e => first | decide | (simp; done) | (simp; omega))) | ((with_reducible refine k_tupD ?e ?_); (case e => first | decide | (simp; done)))
            | ((with_reducible refine' k_lenL ?e ?_); (case e => assumption)) | ((with_reducible refine' k_ixL ?e ?e2 ?_); (case e => assumption); (case e2 => first | assumption | rfl)) | ((with_reducible refine' k_ixT ?e2 ?_); (case e2 => first | assumption | rfl)) | ((with_reducible refine' k_itR ?e ?_); (case e => assumption)))
          rw [show (0 : Int) + (i : Int) + 1 = ((i + 1 : Nat) : Int) by omega, cut_from]
          have el : LS (g ++ [.lst ((svs xs).drop (i + 1))]) g.length (xs.drop (i + 1)) := by
            unfold LS
            rw [lst_new, svs, svs, List.map_drop]
          rw [show (((k + 1 : Nat) : Int) - 1) = (k : Int) by omega]
          refine (some_of_sat n k _ _ _ el (by simp; omega) (by omega) (by omega)).then fun v g1 q => ?_
          obtain ⟨r, rfl, hr, llr, xt1⟩ := q
          have xt2 : Ext g g1 := Ext.refl.snoc.trans xt1
          obtain ⟨vr, er, _⟩ := id llr
          refine k_itR er ?_
          have cl := cmb_len 30 k (xs.drop (i + 1)) (by simp; omega)
          refine cons_lc llr (ep'.ext xt2) hlt (by omega) (fun ys hy => by rw [cmb_mem_len k _ _ hy]; omega) rfl rfl (by simp [wipeP]) fun g2 q hq xt3 llq => ?_
          obtain ⟨vf, ef, alf⟩ := ll
          obtain ⟨vq, eq, alq⟩ := llq
          have lf := alf.length
          have lq := alq.length
          have b1 := bnd i hi
          have b2 : i * 30 ^ k ≤ 30 * 900 := Nat.mul_le_mul (by omega) pw
          repeat (first
            | with_reducible refine k_seq ?_ | ((with_reducible refine k_then_nx ?_); try dsimp only [put]) | with_reducible refine k_e2 ?_ | ((with_reducible refine' k_var ?e ?_); (case e => rfl)) | with_reducible refine k_const ?_
            | with_reducible refine k_set ?_ | with_reducible refine k_if ?_ | with_reducible refine k_ret ?_ | with_reducible refine k_eL ?_ | with_reducible refine k_aCons ?_ | with_reducible refine k_aNil ?_ | with_reducible refine k_bT ?_ | with_reducible refine k_onB ?_
            | with_reducible refine k_call1 ?_ | with_reducible refine k_call2 ?_ | with_reducible refine k_call3 ?_ | with_reducible refine k_expr ?_ | with_reducible refine k_for ?_ | with_reducible refine k_meth ?_ | with_reducible refine k_sub ?_ | with_reducible refine k_par ?_ | with_reducible refine k_tup ?_
            | with_reducible refine k_iAny ?_ | with_reducible refine k_iRng1 ?_ | with_reducible refine k_iRng2 ?_ | with_reducible refine k_iEnm ?_ | with_reducible refine k_then_rt ?_ | with_reducible refine k_then_bk ?_ | with_reducible refine k_then_ct ?_ | with_reducible refine k_skip ?_ | with_reducible refine k_break ?_ | with_reducible refine k_cont ?_ | with_reducible refine k_retN ?_
            | with_reducible refine k_e1 ?_ | with_reducible refine k_not ?_ | with_reducible refine k_and ?_ | with_reducible refine k_or ?_ | with_reducible refine k_ifE ?_ | with_reducible refine k_chain ?_ | with_reducible refine k_slice ?_ | with_reducible refine k_oN ?_ | with_reducible refine k_oS ?_ | with_reducible refine k_lc ?_
            | with_reducible refine k_bAnd ?_ | with_reducible refine k_bOr ?_ | with_reducible refine k_bNot ?_ | with_reducible refine k_yes ?_ | with_reducible refine k_onI ?_ | with_reducible refine k_onR ?_ | with_reducible refine k_onL1 ?_ | with_reducible refine k_onL2 ?_ | with_reducible refine k_itT ?_ | with_reducible refine k_itS ?_
            | with_reducible refine k_ends_rt ?_ | with_reducible refine k_ends_nx ?_ | with_reducible refine k_true ?_ | with_reducible refine k_false ?_ | with_reducible refine k_ntrue ?_ | with_reducible refine k_nfalse ?_
            | with_reducible refine k_addI ?_ | with_reducible refine k_subI ?_ | with_reducible refine k_intI ?_ | with_reducible refine k_ltI ?_ | with_reducible refine k_gtI ?_ | with_reducible refine k_leI ?_ | with_reducible refine k_geI ?_ | with_reducible refine k_eqI ?_ | with_reducible refine k_neI ?_ | with_reducible refine k_eqS ?_ | with_reducible refine k_neS ?_ | with_reducible refine k_negI ?_ | with_reducible refine k_notB ?_ | with_reducible refine k_maxI ?_ | with_reducible refine k_minI ?_ | with_reducible refine k_lenS ?_
            | ((with_reducible refine k_mulI ?e ?_); (case e => omega)) | ((with_reducible refine k_divI ?e ?e2 ?_); (case e => omega); (case e2 => omega)) | ((with_reducible refine k_modI ?e ?_); (case e => omega)) | ((with_reducible refine k_powI ?e ?_); (case e => decide))
            | ((with_reducible refine k_lst ?e ?_); (case e => first | decide | (simp; done) | (simp; omega))) | ((with_reducible refine k_tupD ?e ?_); (case e => first | decide | (simp; done)))
            | ((with_reducible refine' k_lenL ?e ?_); (case e => assumption)) | ((with_reducible refine' k_ixL ?e ?e2 ?_); (case e => assumption); (case e2 => first | assumption | rfl)) | ((with_reducible refine' k_ixT ?e2 ?_); (case e2 => first | assumption | rfl)) | ((with_reducible refine' k_itR ?e ?_); (case e => assumption)))
          refine k_addL ((xt2.trans xt3).lst ef) eq ?_ ?_
          · simp only [List.length_map] at lq
            omega
          repeat (first
            | with_reducible refine k_seq ?_ | ((with_reducible refine k_then_nx ?_); try dsimp only [put]) | with_reducible refine k_e2 ?_ | ((with_reducible refine' k_var ?e ?_); (case e => rfl)) | with_reducible refine k_const ?_
            | with_reducible refine k_set ?_ | with_reducible refine k_if ?_ | with_reducible refine k_ret ?_ | with_reducible refine k_eL ?_ | with_reducible refine k_aCons ?_ | with_reducible refine k_aNil ?_ | with_reducible refine k_bT ?_ | with_reducible refine k_onB ?_
            | with_reducible refine k_call1 ?_ | with_reducible refine k_call2 ?_ | with_reducible refine k_call3 ?_ | with_reducible refine k_expr ?_ | with_reducible refine k_for ?_ | with_reducible refine k_meth ?_ | with_reducible refine k_sub ?_ | with_reducible refine k_par ?_ | with_reducible refine k_tup ?_
            | with_reducible refine k_iAny ?_ | with_reducible refine k_iRng1 ?_ | with_reducible refine k_iRng2 ?_ | with_reducible refine k_iEnm ?_ | with_reducible refine k_then_rt ?_ | with_reducible refine k_then_bk ?_ | with_reducible refine k_then_ct ?_ | with_reducible refine k_skip ?_ | with_reducible refine k_break ?_ | with_reducible refine k_cont ?_ | with_reducible refine k_retN ?_
            | with_reducible refine k_e1 ?_ | with_reducible refine k_not ?_ | with_reducible refine k_and ?_ | with_reducible refine k_or ?_ | with_reducible refine k_ifE ?_ | with_reducible refine k_chain ?_ | with_reducible refine k_slice ?_ | with_reducible refine k_oN ?_ | with_reducible refine k_oS ?_ | with_reducible refine k_lc ?_
            | with_reducible refine k_bAnd ?_ | with_reducible refine k_bOr ?_ | with_reducible refine k_bNot ?_ | with_reducible refine k_yes ?_ | with_reducible refine k_onI ?_ | with_reducible refine k_onR ?_ | with_reducible refine k_onL1 ?_ | with_reducible refine k_onL2 ?_ | with_reducible refine k_itT ?_ | with_reducible refine k_itS ?_
            | with_reducible refine k_ends_rt ?_ | with_reducible refine k_ends_nx ?_ | with_reducible refine k_true ?_ | with_reducible refine k_false ?_ | with_reducible refine k_ntrue ?_ | with_reducible refine k_nfalse ?_
            | with_reducible refine k_addI ?_ | with_reducible refine k_subI ?_ | with_reducible refine k_intI ?_ | with_reducible refine k_ltI ?_ | with_reducible refine k_gtI ?_ | with_reducible refine k_leI ?_ | with_reducible refine k_geI ?_ | with_reducible refine k_eqI ?_ | with_reducible refine k_neI ?_ | with_reducible refine k_eqS ?_ | with_reducible refine k_neS ?_ | with_reducible refine k_negI ?_ | with_reducible refine k_notB ?_ | with_reducible refine k_maxI ?_ | with_reducible refine k_minI ?_ | with_reducible refine k_lenS ?_
            | ((with_reducible refine k_mulI ?e ?_); (case e => omega)) | ((with_reducible refine k_divI ?e ?e2 ?_); (case e => omega); (case e2 => omega)) | ((with_reducible refine k_modI ?e ?_); (case e => omega)) | ((with_reducible refine k_powI ?e ?_); (case e => decide))
            | ((with_reducible refine k_lst ?e ?_); (case e => first | decide | (simp; done) | (simp; omega))) | ((with_reducible refine k_tupD ?e ?_); (case e => first | decide | (simp; done)))
            | ((with_reducible refine' k_lenL ?e ?_); (case e => assumption)) | ((with_reducible refine' k_ixL ?e ?e2 ?_); (case e => assumption); (case e2 => first | assumption | rfl)) | ((with_reducible refine' k_ixT ?e2 ?_); (case e2 => first | assumption | rfl)) | ((with_reducible refine' k_itR ?e ?_); (case e => assumption)))
          have xtA : Ext h (g2 ++ [.lst (vf ++ vq)]) := (xt.trans (xt2.trans xt3)).snoc
          refine ⟨g2.length, _, rfl, ?_, xtA, vf ++ vq, lst_new, ?_⟩
          · exact (xt.trans (xt2.trans xt3)).len
          · rw [List.range_succ, List.flatMap_append, List.flatMap_singleton]
            refine All2.app (alf.imp fun v ys r => r.ext ((xt2.trans xt3).snoc)) (alq.imp fun v ys r => (r.ext Ext.refl.snoc).low ?_)
            have := xt.len
            have := xt2.len
            omega
      · have : i = xs.length := by omega
        subst this
        refine .inl ⟨rfl, ?_, ?_⟩
        · simp only [itAt, Int.toNat_natCast]
          rw [if_neg (by simp [svs])]
        · repeat (first
            | with_reducible refine k_seq ?_ | ((with_reducible refine k_then_nx ?_); try dsimp only [put]) | with_reducible refine k_e2 ?_ | ((with_reducible refine' k_var ?e ?_); (case e => rfl)) | with_reducible refine k_const ?_
            | with_reducible refine k_set ?_ | with_reducible refine k_if ?_ | with_reducible refine k_ret ?_ | with_reducible refine k_eL ?_ | with_reducible refine k_aCons ?_ | with_reducible refine k_aNil ?_ | with_reducible refine k_bT ?_ | with_reducible refine k_onB ?_
            | with_reducible refine k_call1 ?_ | with_reducible refine k_call2 ?_ | with_reducible refine k_call3 ?_ | with_reducible refine k_expr ?_ | with_reducible refine k_for ?_ | with_reducible refine k_meth ?_ | with_reducible refine k_sub ?_ | with_reducible refine k_par ?_ | with_reducible refine k_tup ?_
            | with_reducible refine k_iAny ?_ | with_reducible refine k_iRng1 ?_ | with_reducible refine k_iRng2 ?_ | with_reducible refine k_iEnm ?_ | with_reducible refine k_then_rt ?_ | with_reducible refine k_then_bk ?_ | with_reducible refine k_then_ct ?_ | with_reducible refine k_skip ?_ | with_reducible refine k_break ?_ | with_reducible refine k_cont ?_ | with_reducible refine k_retN ?_
            | with_reducible refine k_e1 ?_ | with_reducible refine k_not ?_ | with_reducible refine k_and ?_ | with_reducible refine k_or ?_ | with_reducible refine k_ifE ?_ | with_reducible refine k_chain ?_ | with_reducible refine k_slice ?_ | with_reducible refine k_oN ?_ | with_reducible refine k_oS ?_ | with_reducible refine k_lc ?_
            | with_reducible refine k_bAnd ?_ | with_reducible refine k_bOr ?_ | with_reducible refine k_bNot ?_ | with_reducible refine k_yes ?_ | with_reducible refine k_onI ?_ | with_reducible refine k_onR ?_ | with_reducible refine k_onL1 ?_ | with_reducible refine k_onL2 ?_ | with_reducible refine k_itT ?_ | with_reducible refine k_itS ?_
            | with_reducible refine k_ends_rt ?_ | with_reducible refine k_ends_nx ?_ | with_reducible refine k_true ?_ | with_reducible refine k_false ?_ | with_reducible refine k_ntrue ?_ | with_reducible refine k_nfalse ?_
            | with_reducible refine k_addI ?_ | with_reducible refine k_subI ?_ | with_reducible refine k_intI ?_ | with_reducible refine k_ltI ?_ | with_reducible refine k_gtI ?_ | with_reducible refine k_leI ?_ | with_reducible refine k_geI ?_ | with_reducible refine k_eqI ?_ | with_reducible refine k_neI ?_ | with_reducible refine k_eqS ?_ | with_reducible refine k_neS ?_ | with_reducible refine k_negI ?_ | with_reducible refine k_notB ?_ | with_reducible refine k_maxI ?_ | with_reducible refine k_minI ?_ | with_reducible refine k_lenS ?_
            | ((with_reducible refine k_mulI ?e ?_); (case e => omega)) | ((with_reducible refine k_divI ?e ?e2 ?_); (case e => omega); (case e2 => omega)) | ((with_reducible refine k_modI ?e ?_); (case e => omega)) | ((with_reducible refine k_powI ?e ?_); (case e => decide))
            | ((with_reducible refine k_lst ?e ?_); (case e => first | decide | (simp; done) | (simp; omega))) | ((with_reducible refine k_tupD ?e ?_); (case e => first | decide | (simp; done)))
            | ((with_reducible refine' k_lenL ?e ?_); (case e => assumption)) | ((with_reducible refine' k_ixL ?e ?e2 ?_); (case e => assumption); (case e2 => first | assumption | rfl)) | ((with_reducible refine' k_ixT ?e2 ?_); (case e2 => first | assumption | rfl)) | ((with_reducible refine' k_itR ?e ?_); (case e => assumption)))
          exact ⟨f, rfl, hf, ll, xt⟩
end Pg
namespace Pg
open PySem PySem.Spec L2 Mi
theorem choices_sat : ∀ (n m : Nat) (xs : List Str) (h : Hh) (p : Nat), LS h p xs → xs.length ≤ 30 → m < n → m ≤ 3 → Sat (d__law_choices n [.ref p, .int m] h) (fun v h' => ∃ q, v = .ref q ∧ h.length ≤ q ∧ LLF h.length h' q (cmb m xs) ∧ Ext h h') NoX
  | 0, m, _, _, _, _, _, hn, _ => absurd hn (Nat.not_lt_zero _)
  | n + 1, m, xs, h, p, ep, hx, hn, hm => by
    unfold d__law_choices
    refine st_fn' (σ0 := [some (.ref p), some (.int m), none, none, none]) rfl ?_
    repeat (first
      | with_reducible refine k_seq ?_ | ((with_reducible refine k_then_nx ?_); try dsimp only [put]) | with_reducible refine k_e2 ?_ | ((with_reducible refine' k_var ?e ?_); (case e => rfl)) | with_reducible refine k_const ?_
      | with_reducible refine k_set ?_ | with_reducible refine k_if ?_ | with_reducible refine k_ret ?_ | with_reducible refine k_eL ?_ | with_reducible refine k_aCons ?_ | with_reducible refine k_aNil ?_ | with_reducible refine k_bT ?_ | with_reducible refine k_onB ?_
      | with_reducible refine k_call1 ?_ | with_reducible refine k_call2 ?_ | with_reducible refine k_call3 ?_ | with_reducible refine k_expr ?_ | with_reducible refine k_for ?_ | with_reducible refine k_meth ?_ | with_reducible refine k_sub ?_ | with_reducible refine k_par ?_ | with_reducible refine k_tup ?_
      | with_reducible refine k_iAny ?_ | with_reducible refine k_iRng1 ?_ | with_reducible refine k_iRng2 ?_ | with_reducible refine k_iEnm ?_ | with_reducible refine k_then_rt ?_ | with_reducible refine k_then_bk ?_ | with_reducible refine k_then_ct ?_ | with_reducible refine k_skip ?_ | with_reducible refine k_break ?_ | with_reducible refine k_cont ?_ | with_reducible refine k_retN ?_
      | with_reducible refine k_e1 ?_ | with_reducible refine k_not ?_ | with_reducible refine k_and ?_ | with_reducible refine k_or ?_ | with_reducible refine k_ifE ?_ | with_reducible refine k_chain ?_ | with_reducible refine k_slice ?_ | with_reducible refine k_oN ?_ | with_reducible refine k_oS ?_ | with_reducible refine k_lc ?_
      | with_reducible refine k_bAnd ?_ | with_reducible refine k_bOr ?_ | with_reducible refine k_bNot ?_ | with_reducible refine k_yes ?_ | with_reducible refine k_onI ?_ | with_reducible refine k_onR ?_ | with_reducible refine k_onL1 ?_ | with_reducible refine k_onL2 ?_ | with_reducible refine k_itT ?_ | with_reducible refine k_itS ?_
      | with_reducible refine k_ends_rt ?_ | with_reducible refine k_ends_nx ?_ | with_reducible refine k_true ?_ | with_reducible refine k_false ?_ | with_reducible refine k_ntrue ?_ | with_reducible refine k_nfalse ?_
      | with_reducible refine k_addI ?_ | with_reducible refine k_subI ?_ | with_reducible refine k_intI ?_ | with_reducible refine k_ltI ?_ | with_reducible refine k_gtI ?_ | with_reducible refine k_leI ?_ | with_reducible refine k_geI ?_ | with_reducible refine k_eqI ?_ | with_reducible refine k_neI ?_ | with_reducible refine k_eqS ?_ | with_reducible refine k_neS ?_ | with_reducible refine k_negI ?_ | with_reducible refine k_notB ?_ | with_reducible refine k_maxI ?_ | with_reducible refine k_minI ?_ | with_reducible refine k_lenS ?_
      | ((with_reducible refine k_mulI ?e ?_); (case e => omega)) | ((with_reducible refine k_divI ?e ?e2 ?_); (case e => omega); (case e2 => omega)) | ((with_reducible refine k_modI ?e ?_); (case e => omega)) | ((with_reducible refine k_powI ?e ?_); (case e => decide))
      | ((with_reducible refine k_lst ?e ?_); (case e => first | decide | (simp; done) | (simp; omega))) | ((with_reducible refine k_tupD ?e ?_); (case e => first | decide | (simp; done)))
      | ((with_reducible refine' k_lenL ?e ?_); (case e => assumption)) | ((with_reducible refine' k_ixL ?e ?e2 ?_); (case e => assumption); (case e2 => first | assumption | rfl)) | ((with_reducible refine' k_ixT ?e2 ?_); (case e2 => first | assumption | rfl)) | ((with_reducible refine' k_itR ?e ?_); (case e => assumption)))
    refine k_dec (fun hp => ?_) fun hne => ?_
    · have : m = 0 := by omega
      subst this
      repeat (first
        | with_reducible refine k_seq ?_ | ((with_reducible refine k_then_nx ?_); try dsimp only [put]) | with_reducible refine k_e2 ?_ | ((with_reducible refine' k_var ?e ?_); (case e => rfl)) | with_reducible refine k_const ?_
        | with_reducible refine k_set ?_ | with_reducible refine k_if ?_ | with_reducible refine k_ret ?_ | with_reducible refine k_eL ?_ | with_reducible refine k_aCons ?_ | with_reducible refine k_aNil ?_ | with_reducible refine k_bT ?_ | with_reducible refine k_onB ?_
        | with_reducible refine k_call1 ?_ | with_reducible refine k_call2 ?_ | with_reducible refine k_call3 ?_ | with_reducible refine k_expr ?_ | with_reducible refine k_for ?_ | with_reducible refine k_meth ?_ | with_reducible refine k_sub ?_ | with_reducible refine k_par ?_ | with_reducible refine k_tup ?_
        | with_reducible refine k_iAny ?_ | with_reducible refine k_iRng1 ?_ | with_reducible refine k_iRng2 ?_ | with_reducible refine k_iEnm ?_ | with_reducible refine k_then_rt ?_ | with_reducible refine k_then_bk ?_ | with_reducible refine k_then_ct ?_ | with_reducible refine k_skip ?_ | with_reducible refine k_break ?_ | with_reducible refine k_cont ?_ | with_reducible refine k_retN ?_
        | with_reducible refine k_e1 ?_ | with_reducible refine k_not ?_ | with_reducible refine k_and ?_ | with_reducible refine k_or ?_ | with_reducible refine k_ifE ?_ | with_reducible refine k_chain ?_ | with_reducible refine k_slice ?_ | with_reducible refine k_oN ?_ | with_reducible refine k_oS ?_ | with_reducible refine k_lc ?_
        | with_reducible refine k_bAnd ?_ | with_reducible refine k_bOr ?_ | with_reducible refine k_bNot ?_ | with_reducible refine k_yes ?_ | with_reducible refine k_onI ?_ | with_reducible refine k_onR ?_ | with_reducible refine k_onL1 ?_ | with_reducible refine k_onL2 ?_ | with_reducible refine k_itT ?_ | with_reducible refine k_itS ?_
        | with_reducible refine k_ends_rt ?_ | with_reducible refine k_ends_nx ?_ | with_reducible refine k_true ?_ | with_reducible refine k_false ?_ | with_reducible refine k_ntrue ?_ | with_reducible refine k_nfalse ?_
        | with_reducible refine k_addI ?_ | with_reducible refine k_subI ?_ | with_reducible refine k_intI ?_ | with_reducible refine k_ltI ?_ | with_reducible refine k_gtI ?_ | with_reducible refine k_leI ?_ | with_reducible refine k_geI ?_ | with_reducible refine k_eqI ?_ | with_reducible refine k_neI ?_ | with_reducible refine k_eqS ?_ | with_reducible refine k_neS ?_ | with_reducible refine k_negI ?_ | with_reducible refine k_notB ?_ | with_reducible refine k_maxI ?_ | with_reducible refine k_minI ?_ | with_reducible refine k_lenS ?_
        | ((with_reducible refine k_mulI ?e ?_); (case e => omega)) | ((with_reducible refine k_divI ?e ?e2 ?_); (case e => omega); (case e2 => omega)) | ((with_reducible refine k_modI ?e ?_); (case e => omega)) | ((with_reducible refine k_powI ?e ?_); (case e => decide))
        | ((with_reducible refine k_lst ?e ?_); (case e => first | decide | (simp; done) | (simp; omega))) | ((with_reducible refine k_tupD ?e ?_); (case e => first | decide | (simp; done)))
        | ((with_reducible refine' k_lenL ?e ?_); (case e => assumption)) | ((with_reducible refine' k_ixL ?e ?e2 ?_); (case e => assumption); (case e2 => first | assumption | rfl)) | ((with_reducible refine' k_ixT ?e2 ?_); (case e2 => first | assumption | rfl)) | ((with_reducible refine' k_itR ?e ?_); (case e => assumption)))
      refine ⟨_, rfl, by simp, ⟨_, lst_new, .cons ⟨h.length, rfl, Nat.le_refl _, lst_old lst_new⟩ .nil⟩, Ext.refl.snoc.snoc⟩
    · obtain ⟨k, rfl⟩ : ∃ k, m = k + 1 := ⟨m - 1, by omega⟩
      repeat (first
        | with_reducible refine k_seq ?_ | ((with_reducible refine k_then_nx ?_); try dsimp only [put]) | with_reducible refine k_e2 ?_ | ((with_reducible refine' k_var ?e ?_); (case e => rfl)) | with_reducible refine k_const ?_
        | with_reducible refine k_set ?_ | with_reducible refine k_if ?_ | with_reducible refine k_ret ?_ | with_reducible refine k_eL ?_ | with_reducible refine k_aCons ?_ | with_reducible refine k_aNil ?_ | with_reducible refine k_bT ?_ | with_reducible refine k_onB ?_
        | with_reducible refine k_call1 ?_ | with_reducible refine k_call2 ?_ | with_reducible refine k_call3 ?_ | with_reducible refine k_expr ?_ | with_reducible refine k_for ?_ | with_reducible refine k_meth ?_ | with_reducible refine k_sub ?_ | with_reducible refine k_par ?_ | with_reducible refine k_tup ?_
        | with_reducible refine k_iAny ?_ | with_reducible refine k_iRng1 ?_ | with_reducible refine k_iRng2 ?_ | with_reducible refine k_iEnm ?_ | with_reducible refine k_then_rt ?_ | with_reducible refine k_then_bk ?_ | with_reducible refine k_then_ct ?_ | with_reducible refine k_skip ?_ | with_reducible refine k_break ?_ | with_reducible refine k_cont ?_ | with_reducible refine k_retN ?_
        | with_reducible refine k_e1 ?_ | with_reducible refine k_not ?_ | with_reducible refine k_and ?_ | with_reducible refine k_or ?_ | with_reducible refine k_ifE ?_ | with_reducible refine k_chain ?_ | with_reducible refine k_slice ?_ | with_reducible refine k_oN ?_ | with_reducible refine k_oS ?_ | with_reducible refine k_lc ?_
        | with_reducible refine k_bAnd ?_ | with_reducible refine k_bOr ?_ | with_reducible refine k_bNot ?_ | with_reducible refine k_yes ?_ | with_reducible refine k_onI ?_ | with_reducible refine k_onR ?_ | with_reducible refine k_onL1 ?_ | with_reducible refine k_onL2 ?_ | with_reducible refine k_itT ?_ | with_reducible refine k_itS ?_
        | with_reducible refine k_ends_rt ?_ | with_reducible refine k_ends_nx ?_ | with_reducible refine k_true ?_ | with_reducible refine k_false ?_ | with_reducible refine k_ntrue ?_ | with_reducible refine k_nfalse ?_
        | with_reducible refine k_addI ?_ | with_reducible refine k_subI ?_ | with_reducible refine k_intI ?_ | with_reducible refine k_ltI ?_ | with_reducible refine k_gtI ?_ | with_reducible refine k_leI ?_ | with_reducible refine k_geI ?_ | with_reducible refine k_eqI ?_ | with_reducible refine k_neI ?_ | with_reducible refine k_eqS ?_ | with_reducible refine k_neS ?_ | with_reducible refine k_negI ?_ | with_reducible refine k_notB ?_ | with_reducible refine k_maxI ?_ | with_reducible refine k_minI ?_ | with_reducible refine k_lenS ?_
        | ((with_reducible refine k_mulI ?e ?_); (case e => omega)) | ((with_reducible refine k_divI ?e ?e2 ?_); (case e => omega); (case e2 => omega)) | ((with_reducible refine k_modI ?e ?_); (case e => omega)) | ((with_reducible refine k_powI ?e ?_); (case e => decide))
        | ((with_reducible refine k_lst ?e ?_); (case e => first | decide | (simp; done) | (simp; omega))) | ((with_reducible refine k_tupD ?e ?_); (case e => first | decide | (simp; done)))
        | ((with_reducible refine' k_lenL ?e ?_); (case e => assumption)) | ((with_reducible refine' k_ixL ?e ?e2 ?_); (case e => assumption); (case e2 => first | assumption | rfl)) | ((with_reducible refine' k_ixT ?e2 ?_); (case e2 => first | assumption | rfl)) | ((with_reducible refine' k_itR ?e ?_); (case e => assumption)))
      refine k_lenL (lst_old ep) ?_
      repeat (first
        | with_reducible refine k_seq ?_ | ((with_reducible refine k_then_nx ?_); try dsimp only [put]) | with_reducible refine k_e2 ?_ | ((with_reducible refine' k_var ?e ?_); (case e => rfl)) | with_reducible refine k_const ?_
        | with_reducible refine k_set ?_ | with_reducible refine k_if ?_ | with_reducible refine k_ret ?_ | with_reducible refine k_eL ?_ | with_reducible refine k_aCons ?_ | with_reducible refine k_aNil ?_ | with_reducible refine k_bT ?_ | with_reducible refine k_onB ?_
        | with_reducible refine k_call1 ?_ | with_reducible refine k_call2 ?_ | with_reducible refine k_call3 ?_ | with_reducible refine k_expr ?_ | with_reducible refine k_for ?_ | with_reducible refine k_meth ?_ | with_reducible refine k_sub ?_ | with_reducible refine k_par ?_ | with_reducible refine k_tup ?_
        | with_reducible refine k_iAny ?_ | with_reducible refine k_iRng1 ?_ | with_reducible refine k_iRng2 ?_ | with_reducible refine k_iEnm ?_ | with_reducible refine k_then_rt ?_ | with_reducible refine k_then_bk ?_ | with_reducible refine k_then_ct ?_ | with_reducible refine k_skip ?_ | with_reducible refine k_break ?_ | with_reducible refine k_cont ?_ | with_reducible refine k_retN ?_
        | with_reducible refine k_e1 ?_ | with_reducible refine k_not ?_ | with_reducible refine k_and ?_ | with_reducible refine k_or ?_ | with_reducible refine k_ifE ?_ | with_reducible refine k_chain ?_ | with_reducible refine k_slice ?_ | with_reducible refine k_oN ?_ | with_reducible refine k_oS ?_ | with_reducible refine k_lc ?_
        | with_reducible refine k_bAnd ?_ | with_reducible refine k_bOr ?_ | with_reducible refine k_bNot ?_ | with_reducible refine k_yes ?_ | with_reducible refine k_onI ?_ | with_reducible refine k_onR ?_ | with_reducible refine k_onL1 ?_ | with_reducible refine k_onL2 ?_ | with_reducible refine k_itT ?_ | with_reducible refine k_itS ?_
        | with_reducible refine k_ends_rt ?_ | with_reducible refine k_ends_nx ?_ | with_reducible refine k_true ?_ | with_reducible refine k_false ?_ | with_reducible refine k_ntrue ?_ | with_reducible refine k_nfalse ?_
        | with_reducible refine k_addI ?_ | with_reducible refine k_subI ?_ | with_reducible refine k_intI ?_ | with_reducible refine k_ltI ?_ | with_reducible refine k_gtI ?_ | with_reducible refine k_leI ?_ | with_reducible refine k_geI ?_ | with_reducible refine k_eqI ?_ | with_reducible refine k_neI ?_ | with_reducible refine k_eqS ?_ | with_reducible refine k_neS ?_ | with_reducible refine k_negI ?_ | with_reducible refine k_notB ?_ | with_reducible refine k_maxI ?_ | with_reducible refine k_minI ?_ | with_reducible refine k_lenS ?_
        | ((with_reducible refine k_mulI ?e ?_); (case e => omega)) | ((with_reducible refine k_divI ?e ?e2 ?_); (case e => omega); (case e2 => omega)) | ((with_reducible refine k_modI ?e ?_); (case e => omega)) | ((with_reducible refine k_powI ?e ?_); (case e => decide))
        | ((with_reducible refine k_lst ?e ?_); (case e => first | decide | (simp; done) | (simp; omega))) | ((with_reducible refine k_tupD ?e ?_); (case e => first | decide | (simp; done)))
        | ((with_reducible refine' k_lenL ?e ?_); (case e => assumption)) | ((with_reducible refine' k_ixL ?e ?e2 ?_); (case e => assumption); (case e2 => first | assumption | rfl)) | ((with_reducible refine' k_ixT ?e2 ?_); (case e2 => first | assumption | rfl)) | ((with_reducible refine' k_itR ?e ?_); (case e => assumption)))
      refine ⟨by omega, by simp [svs]; omega, ?_⟩
      have bnd : ∀ i, i ≤ xs.length → ((List.range i).flatMap fun i => (cmb k (xs.drop (i + 1))).map (xs.getD i "" :: ·)).length ≤ i * 30 ^ k := by
        intro i
        induction i with
        | zero => intro _; simp
        | succ i ih =>
          intro hi
          rw [List.range_succ, List.flatMap_append, List.length_append]
          have h1 := ih (by omega)
          have h2 := cmb_len 30 k (xs.drop (i + 1)) (by simp; omega)
          simp only [List.flatMap_singleton, List.length_map]
          rw [Nat.succ_mul]
          omega
      have pw : 30 ^ k ≤ 900 := by
        have : k ≤ 2 := by omega
        exact Nat.le_trans (Nat.pow_le_pow_right (by decide) this) (by decide)
      refine st_forF xs.length (fun i σ g => ∃ o, σ = [some (.ref p), some (.int ((k + 1 : Nat) : Int)), some (.ref h.length), o, none] ∧ Ext h g ∧ h.length < g.length ∧ LLF (h.length + 1) g h.length ((List.range i).flatMap fun i => (cmb k (xs.drop (i + 1))).map (xs.getD i "" :: ·)))
        ⟨none, rfl, Ext.refl.snoc, by simp, [], lst_new, .nil⟩ (by omega) fun i σ g hi w => ?_
      obtain ⟨o, rfl, xt, hf, ll⟩ := w
      by_cases hlt : i < xs.length
      · refine .inr ⟨hlt, .int (0 + i), _, ?_, rfl, ?_⟩
        · have : i < (svs xs).length := by simpa [svs] using hlt
          simp only [itAt, Int.toNat_natCast]
          rw [if_pos (by simpa [svs] using hlt)]
        · have ep' := ep.ext xt
          obtain ⟨vf, ef, alf⟩ := ll
          repeat (first
            | with_reducible refine k_seq ?_ | ((with_reducible refine k_then_nx ?_); try dsimp only [put]) | with_reducible refine k_e2 ?_ | ((with_reducible refine' k_var ?e ?_); (case e => rfl)) | with_reducible refine k_const ?_
            | with_reducible refine k_set ?_ | with_reducible refine k_if ?_ | with_reducible refine k_ret ?_ | with_reducible refine k_eL ?_ | with_reducible refine k_aCons ?_ | with_reducible refine k_aNil ?_ | with_reducible refine k_bT ?_ | with_reducible refine k_onB ?_
            | with_reducible refine k_call1 ?_ | with_reducible refine k_call2 ?_ | with_reducible refine k_call3 ?_ | with_reducible refine k_expr ?_ | with_reducible refine k_for ?_ | with_reducible refine k_meth ?_ | with_reducible refine k_sub ?_ | with_reducible refine k_par ?_ | with_reducible refine k_tup ?_
            | with_reducible refine k_iAny ?_ | with_reducible refine k_iRng1 ?_ | with_reducible refine k_iRng2 ?_ | with_reducible refine k_iEnm ?_ | with_reducible refine k_then_rt ?_ | with_reducible refine k_then_bk ?_ | with_reducible refine k_then_ct ?_ | with_reducible refine k_skip ?_ | with_reducible refine k_break ?_ | with_reducible refine k_cont ?_ | with_reducible refine k_retN ?_
            | with_reducible refine k_e1 ?_ | with_reducible refine k_not ?_ | with_reducible refine k_and ?_ | with_reducible refine k_or ?_ | with_reducible refine k_ifE ?_ | with_reducible refine k_chain ?_ | with_reducible refine k_slice ?_ | with_reducible refine k_oN ?_ | with_reducible refine k_oS ?_ | with_reducible refine k_lc ?_
            | with_reducible refine k_bAnd ?_ | with_reducible refine k_bOr ?_ | with_reducible refine k_bNot ?_ | with_reducible refine k_yes ?_ | with_reducible refine k_onI ?_ | with_reducible refine k_onR ?_ | with_reducible refine k_onL1 ?_ | with_reducible refine k_onL2 ?_ | with_reducible refine k_itT ?_ | with_reducible refine k_itS ?_
            | with_reducible refine k_ends_rt ?_ | with_reducible refine k_ends_nx ?_ | with_reducible refine k_true ?_ | with_reducible refine k_false ?_ | with_reducible refine k_ntrue ?_ | with_reducible refine k_nfalse ?_
            | with_reducible refine k_addI ?_ | with_reducible refine k_subI ?_ | with_reducible refine k_intI ?_ | with_reducible refine k_ltI ?_ | with_reducible refine k_gtI ?_ | with_reducible refine k_leI ?_ | with_reducible refine k_geI ?_ | with_reducible refine k_eqI ?_ | with_reducible refine k_neI ?_ | with_reducible refine k_eqS ?_ | with_reducible refine k_neS ?_ | with_reducible refine k_negI ?_ | with_reducible refine k_notB ?_ | with_reducible refine k_maxI ?_ | with_reducible refine k_minI ?_ | with_reducible refine k_lenS ?_
            | ((with_reducible refine k_mulI ?e ?_); (case e => omega)) | ((with_reducible refine k_divI ?e ?e2 ?_); (case e => omega); (case e2 => omega)) | ((with_reducible refine k_modI ?e ?_); (case e => omega)) | ((with_reducible refine k_powI ?e ?_); (case e => decide))
            | ((with_reducible refine k_lst ?e ?_); (case e => first | decide | (simp; done) | (simp; omega))) | ((with_reducible refine k_tupD ?e ?_); (case e => first | decide | (simp; done)))
            | ((with_reducible refine' k_lenL ?e ?_); (case e => assumption)) | ((with_reducible refine' k_ixL ?e ?e2 ?_); (case e => assumption); (case e2 => first | assumption | rfl)) | ((with_reducible refine' k_ixT ?e2 ?_); (case e2 => first | assumption | rfl)) | ((with_reducible refine' k_itR ?e ?_); (case e => assumption)))
          refine ⟨k_isL ef, ?_⟩
          repeat (first
            | with_reducible refine k_seq ?_ | ((with_reducible refine k_then_nx ?_); try dsimp only [put]) | with_reducible refine k_e2 ?_ | ((with_reducible refine' k_var ?e ?_); (case e => rfl)) | with_reducible refine k_const ?_
            | with_reducible refine k_set ?_ | with_reducible refine k_if ?_ | with_reducible refine k_ret ?_ | with_reducible refine k_eL ?_ | with_reducible refine k_aCons ?_ | with_reducible refine k_aNil ?_ | with_reducible refine k_bT ?_ | with_reducible refine k_onB ?_
            | with_reducible refine k_call1 ?_ | with_reducible refine k_call2 ?_ | with_reducible refine k_call3 ?_ | with_reducible refine k_expr ?_ | with_reducible refine k_for ?_ | with_reducible refine k_meth ?_ | with_reducible refine k_sub ?_ | with_reducible refine k_par ?_ | with_reducible refine k_tup ?_
            | with_reducible refine k_iAny ?_ | with_reducible refine k_iRng1 ?_ | with_reducible refine k_iRng2 ?_ | with_reducible refine k_iEnm ?_ | with_reducible refine k_then_rt ?_ | with_reducible refine k_then_bk ?_ | with_reducible refine k_then_ct ?_ | with_reducible refine k_skip ?_ | with_reducible refine k_break ?_ | with_reducible refine k_cont ?_ | with_reducible refine k_retN ?_
            | with_reducible refine k_e1 ?_ | with_reducible refine k_not ?_ | with_reducible refine k_and ?_ | with_reducible refine k_or ?_ | with_reducible refine k_ifE ?_ | with_reducible refine k_chain ?_ | with_reducible refine k_slice ?_ | with_reducible refine k_oN ?_ | with_reducible refine k_oS ?_ | with_reducible refine k_lc ?_
            | with_reducible refine k_bAnd ?_ | with_reducible refine k_bOr ?_ | with_reducible refine k_bNot ?_ | with_reducible refine k_yes ?_ | with_reducible refine k_onI ?_ | with_reducible refine k_onR ?_ | with_reducible refine k_onL1 ?_ | with_reducible refine k_onL2 ?_ | with_reducible refine k_itT ?_ | with_reducible refine k_itS ?_
            | with_reducible refine k_ends_rt ?_ | with_reducible refine k_ends_nx ?_ | with_reducible refine k_true ?_ | with_reducible refine k_false ?_ | with_reducible refine k_ntrue ?_ | with_reducible refine k_nfalse ?_
            | with_reducible refine k_addI ?_ | with_reducible refine k_subI ?_ | with_reducible refine k_intI ?_ | with_reducible refine k_ltI ?_ | with_reducible refine k_gtI ?_ | with_reducible refine k_leI ?_ | with_reducible refine k_geI ?_ | with_reducible refine k_eqI ?_ | with_reducible refine k_neI ?_ | with_reducible refine k_eqS ?_ | with_reducible refine k_neS ?_ | with_reducible refine k_negI ?_ | with_reducible refine k_notB ?_ | with_reducible refine k_maxI ?_ | with_reducible refine k_minI ?_ | with_reducible refine k_lenS ?_
            | ((with_reducible refine k_mulI ?e ?_); (case e => omega)) | ((with_reducible refine k_divI ?e ?e2 ?_); (case e => omega); (case e2 => omega)) | ((with_reducible refine k_modI ?e ?_); (case e => omega)) | ((with_reducible refine k_powI ?e ?_); (case e => decide))
            | ((with_reducible refine k_lst ?e ?_); (case e => first | decide | (simp; done) | (simp; omega))) | ((with_reducible refine k_tupD ?e ?_); (case e => first | decide | (simp; done)))
            | ((with_reducible refine' k_lenL ?e ?_); (case e => assumption)) | ((with_reducible refine' k_ixL ?e ?e2 ?_); (case e => assumption); (case e2 => first | assumption | rfl)) | ((with_reducible refine' k_ixT ?e2 ?_); (case e2 => first | assumption | rfl)) | ((with_reducible refine' k_itR ?e ?_); (case e => assumption)))
          refine k_slL ep' ?_
          repeat (first
            | with_reducible refine k_seq ?_ | ((with_reducible refine k_then_nx ?_); try dsimp only [put]) | with_reducible refine k_e2 ?_ | ((with_reducible refine' k_var ?e ?_); (case e => rfl)) | with_reducible refine k_const ?_
            | with_reducible refine k_set ?_ | with_reducible refine k_if ?_ | with_reducible refine k_ret ?_ | with_reducible refine k_eL ?_ | with_reducible refine k_aCons ?_ | with_reducible refine k_aNil ?_ | with_reducible refine k_bT ?_ | with_reducible refine k_onB ?_
            | with_reducible refine k_call1 ?_ | with_reducible refine k_call2 ?_ | with_reducible refine k_call3 ?_ | with_reducible refine k_expr ?_ | with_reducible refine k_for ?_ | with_reducible refine k_meth ?_ | with_reducible refine k_sub ?_ | with_reducible refine k_par ?_ | with_reducible refine k_tup ?_
            | with_reducible refine k_iAny ?_ | with_reducible refine k_iRng1 ?_ | with_reducible refine k_iRng2 ?_ | with_reducible refine k_iEnm ?_ | with_reducible refine k_then_rt ?_ | with_reducible refine k_then_bk ?_ | with_reducible refine k_then_ct ?_ | with_reducible refine k_skip ?_ | with_reducible refine k_break ?_ | with_reducible refine k_cont ?_ | with_reducible refine k_retN ?_
            | with_reducible refine k_e1 ?_ | with_reducible refine k_not ?_ | with_reducible refine k_and ?_ | with_reducible refine k_or ?_ | with_reducible refine k_ifE ?_ | with_reducible refine k_chain ?_ | with_reducible refine k_slice ?_ | with_reducible refine k_oN ?_ | with_reducible refine k_oS ?_ | with_reducible refine k_lc ?_
            | with_reducible refine k_bAnd ?_ | with_reducible refine k_bOr ?_ | with_reducible refine k_bNot ?_ | with_reducible refine k_yes ?_ | with_reducible refine k_onI ?_ | with_reducible refine k_onR ?_ | with_reducible refine k_onL1 ?_ | with_reducible refine k_onL2 ?_ | with_reducible refine k_itT ?_ | with_reducible refine k_itS ?_
            | with_reducible refine k_ends_rt ?_ | with_reducible refine k_ends_nx ?_ | with_reducible refine k_true ?_ | with_reducible refine k_false ?_ | with_reducible refine k_ntrue ?_ | with_reducible refine k_nfalse ?_
            | with_reducible refine k_addI ?_ | with_reducible refine k_subI ?_ | with_reducible refine k_intI ?_ | with_reducible refine k_ltI ?_ | with_reducible refine k_gtI ?_ | with_reducible refine k_leI ?_ | with_reducible refine k_geI ?_ | with_reducible refine k_eqI ?_ | with_reducible refine k_neI ?_ | with_reducible refine k_eqS ?_ | with_reducible refine k_neS ?_ | with_reducible refine k_negI ?_ | with_reducible refine k_notB ?_ | with_reducible refine k_maxI ?_ | with_reducible refine k_minI ?_ | with_reducible refine k_lenS ?_
            | ((with_reducible refine k_mulI ?e ?_); (case e => omega)) | ((with_reducible refine k_divI ?e ?e2 ?_); (case e => omega); (case e2 => omega)) | ((with_reducible refine k_modI ?e ?_); (case e => omega)) | ((with_reducible refine k_powI ?e ?_); (case e => decide))
            | ((with_reducible refine k_lst ?e ?_); (case e => first | decide | (simp; done) | (simp; omega))) | ((with_reducible refine k_tupD ?e ?_); (case e => first | decide | (simp; done)))
            | ((with_reducible refine' k_lenL ?e ?_); (case e => assumption)) | ((with_reducible refine' k_ixL ?e ?e2 ?_); (case e => assumption); (case e2 => first | assumption | rfl)) | ((with_reducible refine' k_ixT ?e2 ?_); (case e2 => first | assumption | rfl)) | ((with_reducible refine' k_itR ?e ?_); (case e => assumption)))
          rw [show (0 : Int) + (i : Int) + 1 = ((i + 1 : Nat) : Int) by omega, cut_from]
          have el : LS (g ++ [.lst ((svs xs).drop (i + 1))]) g.length (xs.drop (i + 1)) := by
            unfold LS
            rw [lst_new, svs, svs, List.map_drop]
          rw [show (((k + 1 : Nat) : Int) - 1) = (k : Int) by omega]
          refine (choices_sat n k _ _ _ el (by simp; omega) (by omega) (by omega)).then fun v g1 q => ?_
          obtain ⟨r, rfl, hr, llr, xt1⟩ := q
          have xt2 : Ext g g1 := Ext.refl.snoc.trans xt1
          obtain ⟨vr, er, _⟩ := id llr
          refine k_itR er ?_
          have cl := cmb_len 30 k (xs.drop (i + 1)) (by simp; omega)
          refine cons_lc llr (ep'.ext xt2) hlt (by omega) (fun ys hy => by rw [cmb_mem_len k _ _ hy]; omega) rfl rfl (by simp [wipeP]) fun g2 q hq xt3 llq => ?_
          obtain ⟨vq, eq, alq⟩ := llq
          have lf := alf.length
          have lq := alq.length
          have b1 := bnd i hi
          have b2 : i * 30 ^ k ≤ 30 * 900 := Nat.mul_le_mul (by omega) pw
          have xtB := xt2.trans xt3
          have l1 := xt.len
          have l2 := xt2.len
          have l3 := xt3.len
          repeat (first
            | with_reducible refine k_seq ?_ | ((with_reducible refine k_then_nx ?_); try dsimp only [put]) | with_reducible refine k_e2 ?_ | ((with_reducible refine' k_var ?e ?_); (case e => rfl)) | with_reducible refine k_const ?_
            | with_reducible refine k_set ?_ | with_reducible refine k_if ?_ | with_reducible refine k_ret ?_ | with_reducible refine k_eL ?_ | with_reducible refine k_aCons ?_ | with_reducible refine k_aNil ?_ | with_reducible refine k_bT ?_ | with_reducible refine k_onB ?_
            | with_reducible refine k_call1 ?_ | with_reducible refine k_call2 ?_ | with_reducible refine k_call3 ?_ | with_reducible refine k_expr ?_ | with_reducible refine k_for ?_ | with_reducible refine k_meth ?_ | with_reducible refine k_sub ?_ | with_reducible refine k_par ?_ | with_reducible refine k_tup ?_
            | with_reducible refine k_iAny ?_ | with_reducible refine k_iRng1 ?_ | with_reducible refine k_iRng2 ?_ | with_reducible refine k_iEnm ?_ | with_reducible refine k_then_rt ?_ | with_reducible refine k_then_bk ?_ | with_reducible refine k_then_ct ?_ | with_reducible refine k_skip ?_ | with_reducible refine k_break ?_ | with_reducible refine k_cont ?_ | with_reducible refine k_retN ?_
            | with_reducible refine k_e1 ?_ | with_reducible refine k_not ?_ | with_reducible refine k_and ?_ | with_reducible refine k_or ?_ | with_reducible refine k_ifE ?_ | with_reducible refine k_chain ?_ | with_reducible refine k_slice ?_ | with_reducible refine k_oN ?_ | with_reducible refine k_oS ?_ | with_reducible refine k_lc ?_
            | with_reducible refine k_bAnd ?_ | with_reducible refine k_bOr ?_ | with_reducible refine k_bNot ?_ | with_reducible refine k_yes ?_ | with_reducible refine k_onI ?_ | with_reducible refine k_onR ?_ | with_reducible refine k_onL1 ?_ | with_reducible refine k_onL2 ?_ | with_reducible refine k_itT ?_ | with_reducible refine k_itS ?_
            | with_reducible refine k_ends_rt ?_ | with_reducible refine k_ends_nx ?_ | with_reducible refine k_true ?_ | with_reducible refine k_false ?_ | with_reducible refine k_ntrue ?_ | with_reducible refine k_nfalse ?_
            | with_reducible refine k_addI ?_ | with_reducible refine k_subI ?_ | with_reducible refine k_intI ?_ | with_reducible refine k_ltI ?_ | with_reducible refine k_gtI ?_ | with_reducible refine k_leI ?_ | with_reducible refine k_geI ?_ | with_reducible refine k_eqI ?_ | with_reducible refine k_neI ?_ | with_reducible refine k_eqS ?_ | with_reducible refine k_neS ?_ | with_reducible refine k_negI ?_ | with_reducible refine k_notB ?_ | with_reducible refine k_maxI ?_ | with_reducible refine k_minI ?_ | with_reducible refine k_lenS ?_
            | ((with_reducible refine k_mulI ?e ?_); (case e => omega)) | ((with_reducible refine k_divI ?e ?e2 ?_); (case e => omega); (case e2 => omega)) | ((with_reducible refine k_modI ?e ?_); (case e => omega)) | ((with_reducible refine k_powI ?e ?_); (case e => decide))
            | ((with_reducible refine k_lst ?e ?_); (case e => first | decide | (simp; done) | (simp; omega))) | ((with_reducible refine k_tupD ?e ?_); (case e => first | decide | (simp; done)))
            | ((with_reducible refine' k_lenL ?e ?_); (case e => assumption)) | ((with_reducible refine' k_ixL ?e ?e2 ?_); (case e => assumption); (case e2 => first | assumption | rfl)) | ((with_reducible refine' k_ixT ?e2 ?_); (case e2 => first | assumption | rfl)) | ((with_reducible refine' k_itR ?e ?_); (case e => assumption)))
          refine k_extend (xtB.lst ef) eq ?_ ?_
          · simp only [List.length_map] at lq
            omega
          repeat (first
            | with_reducible refine k_seq ?_ | ((with_reducible refine k_then_nx ?_); try dsimp only [put]) | with_reducible refine k_e2 ?_ | ((with_reducible refine' k_var ?e ?_); (case e => rfl)) | with_reducible refine k_const ?_
            | with_reducible refine k_set ?_ | with_reducible refine k_if ?_ | with_reducible refine k_ret ?_ | with_reducible refine k_eL ?_ | with_reducible refine k_aCons ?_ | with_reducible refine k_aNil ?_ | with_reducible refine k_bT ?_ | with_reducible refine k_onB ?_
            | with_reducible refine k_call1 ?_ | with_reducible refine k_call2 ?_ | with_reducible refine k_call3 ?_ | with_reducible refine k_expr ?_ | with_reducible refine k_for ?_ | with_reducible refine k_meth ?_ | with_reducible refine k_sub ?_ | with_reducible refine k_par ?_ | with_reducible refine k_tup ?_
            | with_reducible refine k_iAny ?_ | with_reducible refine k_iRng1 ?_ | with_reducible refine k_iRng2 ?_ | with_reducible refine k_iEnm ?_ | with_reducible refine k_then_rt ?_ | with_reducible refine k_then_bk ?_ | with_reducible refine k_then_ct ?_ | with_reducible refine k_skip ?_ | with_reducible refine k_break ?_ | with_reducible refine k_cont ?_ | with_reducible refine k_retN ?_
            | with_reducible refine k_e1 ?_ | with_reducible refine k_not ?_ | with_reducible refine k_and ?_ | with_reducible refine k_or ?_ | with_reducible refine k_ifE ?_ | with_reducible refine k_chain ?_ | with_reducible refine k_slice ?_ | with_reducible refine k_oN ?_ | with_reducible refine k_oS ?_ | with_reducible refine k_lc ?_
            | with_reducible refine k_bAnd ?_ | with_reducible refine k_bOr ?_ | with_reducible refine k_bNot ?_ | with_reducible refine k_yes ?_ | with_reducible refine k_onI ?_ | with_reducible refine k_onR ?_ | with_reducible refine k_onL1 ?_ | with_reducible refine k_onL2 ?_ | with_reducible refine k_itT ?_ | with_reducible refine k_itS ?_
            | with_reducible refine k_ends_rt ?_ | with_reducible refine k_ends_nx ?_ | with_reducible refine k_true ?_ | with_reducible refine k_false ?_ | with_reducible refine k_ntrue ?_ | with_reducible refine k_nfalse ?_
            | with_reducible refine k_addI ?_ | with_reducible refine k_subI ?_ | with_reducible refine k_intI ?_ | with_reducible refine k_ltI ?_ | with_reducible refine k_gtI ?_ | with_reducible refine k_leI ?_ | with_reducible refine k_geI ?_ | with_reducible refine k_eqI ?_ | with_reducible refine k_neI ?_ | with_reducible refine k_eqS ?_ | with_reducible refine k_neS ?_ | with_reducible refine k_negI ?_ | with_reducible refine k_notB ?_ | with_reducible refine k_maxI ?_ | with_reducible refine k_minI ?_ | with_reducible refine k_lenS ?_
            | ((with_reducible refine k_mulI ?e ?_); (case e => omega)) | ((with_reducible refine k_divI ?e ?e2 ?_); (case e => omega); (case e2 => omega)) | ((with_reducible refine k_modI ?e ?_); (case e => omega)) | ((with_reducible refine k_powI ?e ?_); (case e => decide))
            | ((with_reducible refine k_lst ?e ?_); (case e => first | decide | (simp; done) | (simp; omega))) | ((with_reducible refine k_tupD ?e ?_); (case e => first | decide | (simp; done)))
            | ((with_reducible refine' k_lenL ?e ?_); (case e => assumption)) | ((with_reducible refine' k_ixL ?e ?e2 ?_); (case e => assumption); (case e2 => first | assumption | rfl)) | ((with_reducible refine' k_ixT ?e2 ?_); (case e2 => first | assumption | rfl)) | ((with_reducible refine' k_itR ?e ?_); (case e => assumption)))
          have stay : ∀ {v ys}, LRF (h.length + 1) g2 v ys → LRF (h.length + 1) (g2.set h.length (.lst (vf ++ vq))) v ys := fun {v ys} r => by
            obtain ⟨q1, e1, b1, e2⟩ := r
            exact ⟨q1, e1, b1, lst_ne e2 (by omega)⟩
          refine ⟨_, rfl, (xt.trans xtB).put (Nat.le_refl _), ?_, vf ++ vq, lst_set (xtB.lst ef), ?_⟩
          · simp only [List.length_set]
            omega
          · rw [List.range_succ, List.flatMap_append, List.flatMap_singleton]
            refine All2.app (alf.imp fun v ys r => stay (r.ext xtB)) (alq.imp fun v ys r => stay (r.low (by omega)))
      · have : i = xs.length := by omega
        subst this
        refine .inl ⟨rfl, ?_, ?_⟩
        · simp only [itAt, Int.toNat_natCast]
          rw [if_neg (by simp [svs])]
        · repeat (first
            | with_reducible refine k_seq ?_ | ((with_reducible refine k_then_nx ?_); try dsimp only [put]) | with_reducible refine k_e2 ?_ | ((with_reducible refine' k_var ?e ?_); (case e => rfl)) | with_reducible refine k_const ?_
            | with_reducible refine k_set ?_ | with_reducible refine k_if ?_ | with_reducible refine k_ret ?_ | with_reducible refine k_eL ?_ | with_reducible refine k_aCons ?_ | with_reducible refine k_aNil ?_ | with_reducible refine k_bT ?_ | with_reducible refine k_onB ?_
            | with_reducible refine k_call1 ?_ | with_reducible refine k_call2 ?_ | with_reducible refine k_call3 ?_ | with_reducible refine k_expr ?_ | with_reducible refine k_for ?_ | with_reducible refine k_meth ?_ | with_reducible refine k_sub ?_ | with_reducible refine k_par ?_ | with_reducible refine k_tup ?_
            | with_reducible refine k_iAny ?_ | with_reducible refine k_iRng1 ?_ | with_reducible refine k_iRng2 ?_ | with_reducible refine k_iEnm ?_ | with_reducible refine k_then_rt ?_ | with_reducible refine k_then_bk ?_ | with_reducible refine k_then_ct ?_ | with_reducible refine k_skip ?_ | with_reducible refine k_break ?_ | with_reducible refine k_cont ?_ | with_reducible refine k_retN ?_
            | with_reducible refine k_e1 ?_ | with_reducible refine k_not ?_ | with_reducible refine k_and ?_ | with_reducible refine k_or ?_ | with_reducible refine k_ifE ?_ | with_reducible refine k_chain ?_ | with_reducible refine k_slice ?_ | with_reducible refine k_oN ?_ | with_reducible refine k_oS ?_ | with_reducible refine k_lc ?_
            | with_reducible refine k_bAnd ?_ | with_reducible refine k_bOr ?_ | with_reducible refine k_bNot ?_ | with_reducible refine k_yes ?_ | with_reducible refine k_onI ?_ | with_reducible refine k_onR ?_ | with_reducible refine k_onL1 ?_ | with_reducible refine k_onL2 ?_ | with_reducible refine k_itT ?_ | with_reducible refine k_itS ?_
            | with_reducible refine k_ends_rt ?_ | with_reducible refine k_ends_nx ?_ | with_reducible refine k_true ?_ | with_reducible refine k_false ?_ | with_reducible refine k_ntrue ?_ | with_reducible refine k_nfalse ?_
            | with_reducible refine k_addI ?_ | with_reducible refine k_subI ?_ | with_reducible refine k_intI ?_ | with_reducible refine k_ltI ?_ | with_reducible refine k_gtI ?_ | with_reducible refine k_leI ?_ | with_reducible refine k_geI ?_ | with_reducible refine k_eqI ?_ | with_reducible refine k_neI ?_ | with_reducible refine k_eqS ?_ | with_reducible refine k_neS ?_ | with_reducible refine k_negI ?_ | with_reducible refine k_notB ?_ | with_reducible refine k_maxI ?_ | with_reducible refine k_minI ?_ | with_reducible refine k_lenS ?_
            | ((with_reducible refine k_mulI ?e ?_); (case e => omega)) | ((with_reducible refine k_divI ?e ?e2 ?_); (case e => omega); (case e2 => omega)) | ((with_reducible refine k_modI ?e ?_); (case e => omega)) | ((with_reducible refine k_powI ?e ?_); (case e => decide))
            | ((with_reducible refine k_lst ?e ?_); (case e => first | decide | (simp; done) | (simp; omega))) | ((with_reducible refine k_tupD ?e ?_); (case e => first | decide | (simp; done)))
            | ((with_reducible refine' k_lenL ?e ?_); (case e => assumption)) | ((with_reducible refine' k_ixL ?e ?e2 ?_); (case e => assumption); (case e2 => first | assumption | rfl)) | ((with_reducible refine' k_ixT ?e2 ?_); (case e2 => first | assumption | rfl)) | ((with_reducible refine' k_itR ?e ?_); (case e => assumption)))
          obtain ⟨vf, ef, alf⟩ := ll
          exact ⟨_, rfl, Nat.le_refl _, ⟨vf, ef, alf.imp fun v ys r => r.low (by omega)⟩, xt⟩
/-- what a set has of a triple -/
def trc (tr one : List Str) : List Str := tr.filter fun x => decide (x ∈ one)
/-- [leaf for leaf in triple if leaf in one] -/
theorem trace_lc {Q : Pv → Hh → Prop} {E : XX} {h1 : Hh} {a o i j : Nat} {tr one : List Str} {σ0 : Sg} (ea : LS h1 a tr) (eo : LS h1 o one) (hl : tr.length < 100000) (ij : i < j) (sj : j < σ0.length)
    (si : slot σ0 i = some (.ref o)) (fin : ∀ h' q, q = h1.length → Ext h1 h' → LS h' q (trc tr one) → Q (.ref q) h') :
    Sat (lcF (.lst a) (.one j) (bT (e2 inO (eVar j) (eVar i))) (eVar j) h1.length σ0 fuelN 0 (h1 ++ [.lst []])) Q E := by
  refine st_lcL (fun v => match v with | .str x => decide (x ∈ one) | _ => false) (fun h x v => v = x) ea (by simpa [svs] using (by omega : tr.length < 1000000)) (fun _ _ _ _ r _ => r) ?_ ?_
  · intro x h hx xt lt
    simp only [svs, List.mem_map] at hx
    obtain ⟨z, hz, rfl⟩ := hx
    refine ⟨put j (.str z) σ0, by simp [Tg.put, put_eq], ?_⟩
    refine k_bT (k_e2 (k_var (slot_put _ _ _ sj) (k_var ((slot_put_lt _ _ _ _ ij).trans si) (k_inLS (eo.ext xt) (k_onB ?_)))))
    exact ⟨rfl, Ext.refl, fun _ => k_var (slot_put _ _ _ sj) ⟨rfl, Ext.refl⟩⟩
  · intro h' vs xt lt e al
    refine fin h' _ rfl xt ?_
    have := al.fn (f := fun x => x)
    unfold LS
    rw [e, this, List.map_id', svs, List.filter_map]
    rfl
/-- [te for one in sets], te makes of each list another one -/
theorem map_lc {Q : Pv → Hh → Prop} {E : XX} {h1 : Hh} {a i : Nat} {xss : List (List Str)} {te : EM} {σ0 : Sg} (f : List Str → List Str) (ea : LL h1 a xss) (hl : xss.length < 100000)
    (each : ∀ xs q h, xs ∈ xss → LS h1 q xs → Ext h1 h → Sat (te (put i (.ref q) σ0) h) (fun y h' => ∃ q', y = .ref q' ∧ h.length ≤ q' ∧ LS h' q' (f xs) ∧ Ext h h') NoX)
    (fin : ∀ h' q, q = h1.length → Ext h1 h' → LLF h1.length h' q (xss.map f) → Q (.ref q) h') :
    Sat (lcF (.lst a) (.one i) bYes te h1.length σ0 fuelN 0 (h1 ++ [.lst []])) Q E := by
  obtain ⟨vs0, er1, al0⟩ := ea
  have lv := al0.length
  refine st_lcL (fun _ => true) (fun h x v => ∃ q', v = .ref q' ∧ h1.length < q' ∧ ∀ q xs, x = .ref q → LS h1 q xs → LS h q' (f xs)) er1 (by omega) ?_ ?_ ?_
  · intro h h' x v r bey
    obtain ⟨q', e1, lt, g⟩ := r
    exact ⟨q', e1, lt, fun q ys e2 e3 => bey.lst (g q ys e2 e3) (by omega)⟩
  · intro x h hx xt lt
    obtain ⟨j, hj, ej⟩ := List.getElem_of_mem hx
    obtain ⟨xs, ey, q, rfl, eq⟩ : ∃ ys, xss[j]? = some ys ∧ LLR h1 x ys := by
      obtain ⟨ys, e1, e2⟩ := al0.get (i := j) (by rw [List.getElem?_eq_getElem hj, ej])
      exact ⟨ys, e1, e2⟩
    refine ⟨put i (.ref q) σ0, by simp [Tg.put, put_eq], k_yes ⟨rfl, Ext.refl, fun _ => ?_⟩⟩
    refine (each xs q h (List.mem_of_getElem? ey) eq xt).then fun y h' z => ?_
    obtain ⟨q', rfl, b, e2, x2⟩ := z
    refine ⟨⟨q', rfl, by omega, fun q2 xs2 e3 e4 => ?_⟩, x2⟩
    cases e3
    have : xs2 = xs := svs_inj (Option.some.inj ((show lstAt h1 q = _ from e4).symm.trans eq))
    rw [this]; exact e2
  · intro h' vs xt lt e1 al
    refine fin h' _ rfl xt ⟨vs, e1, ?_⟩
    rw [List.filter_eq_self.mpr (fun _ _ => rfl)] at al
    refine All2.map_right ((All2.comp al al0).imp fun v ys z => ?_)
    obtain ⟨x, ⟨q', e2, lt2, g⟩, q, e3, e4⟩ := z
    exact ⟨q', e2, by omega, g q ys e3 e4⟩
theorem strsP_svs : ∀ (xs : List Str), strsP (svs xs) = some xs
  | [] => rfl
  | x :: xs => by
    have ih := strsP_svs xs
    simp only [svs, List.map_cons, strsP] at ih ⊢
    rw [ih]; rfl
theorem filter_len {α β : Type} {R : α → β → Prop} {p : α → Bool} {pp : β → Bool} : ∀ {as : List α} {bs : List β}, All2 R as bs → (∀ a b, R a b → p a = pp b) → (as.filter p).length = (bs.filter pp).length
  | _, _, .nil, _ => rfl
  | _, _, .cons (a := a) (b := b) r t, h => by
    have ih := filter_len t h
    simp only [List.filter_cons, h a b r]
    split <;> simp [ih]
/-- [pair for pair in pairs if pair in seen]: how many -/
theorem pairs_lc {Q : Pv → Hh → Prop} {E : XX} {h1 : Hh} {b a s i j : Nat} {yss seen : List (List Str)} {σ0 : Sg} (ea : LLF b h1 a yss) (es : LL h1 s seen) (hl : yss.length < 100000) (ij : i ≠ j) (sj : j < σ0.length) (si : slot σ0 i = some (.ref s))
    (fin : ∀ h' q vs, q = h1.length → Ext h1 h' → lstAt h' q = some vs → vs.length = (yss.filter fun ys => decide (ys ∈ seen)).length → Q (.ref q) h') :
    Sat (lcF (.lst a) (.one j) (bT (e2 inO (eVar j) (eVar i))) (eVar j) h1.length σ0 fuelN 0 (h1 ++ [.lst []])) Q E := by
  obtain ⟨vs0, er1, al0⟩ := ea
  have lv := al0.length
  let p : Pv → Bool := fun v => match v with
    | .ref q => match lstAt h1 q with
      | some xs => match strsP xs with
        | some zs => decide (zs ∈ seen)
        | none => false
      | none => false
    | _ => false
  have hp : ∀ v ys, LRF b h1 v ys → p v = decide (ys ∈ seen) := by
    intro v ys r
    obtain ⟨q, rfl, _, e⟩ := r
    have e' : lstAt h1 q = some (svs ys) := e
    show (match lstAt h1 q with | some xs => (match strsP xs with | some zs => decide (zs ∈ seen) | none => false) | none => false) = _
    rw [e']
    simp only [strsP_svs]
  refine st_lcL p (fun h x v => v = x) er1 (by omega) (fun _ _ _ _ r _ => r) ?_ ?_
  · intro x h hx xt lt
    obtain ⟨k, hk, ek⟩ := List.getElem_of_mem hx
    obtain ⟨xs, ey, rr⟩ := al0.get (i := k) (by rw [List.getElem?_eq_getElem hk, ek])
    obtain ⟨q, rfl, bq, eq⟩ := id rr
    refine ⟨put j (.ref q) σ0, by simp [Tg.put, put_eq], ?_⟩
    refine k_bT (k_e2 (k_var (slot_put _ _ _ sj) (k_var ((slot_put_ne _ _ _ _ ij).trans si) (k_inLL (es.ext xt) (eq.ext xt) (k_onB ?_)))))
    exact ⟨(hp _ _ rr).symm, Ext.refl, fun _ => k_var (slot_put _ _ _ sj) ⟨rfl, Ext.refl⟩⟩
  · intro h' vs xt lt e al
    refine fin h' _ vs rfl xt e ?_
    rw [← al.length]
    exact filter_len al0 hp
end Pg
namespace Pg
open PySem PySem.Spec L2 Mi
def okN (x : Str) : Prop := 1 ≤ x.length ∧ x.length ≤ 8 ∧ ∀ c ∈ x.cps.toList, inS ⟨#[c]⟩ "abcdefghijklmnopqrstuvwxyz" = true
theorem is_name_sat {x : Str} {h : Hh} (ok : okN x) : Sat (d_is_name [.str x] h) (fun v h' => v = .bl true ∧ Ext h h') NoX := by
  obtain ⟨o1, o2, o3⟩ := ok
  unfold d_is_name
  refine st_fn' (σ0 := [some (.str x), none]) rfl ?_
  repeat (first
    | with_reducible refine k_seq ?_ | ((with_reducible refine k_then_nx ?_); try dsimp only [put]) | with_reducible refine k_e2 ?_ | ((with_reducible refine' k_var ?e ?_); (case e => rfl)) | with_reducible refine k_const ?_
    | with_reducible refine k_set ?_ | with_reducible refine k_if ?_ | with_reducible refine k_ret ?_ | with_reducible refine k_eL ?_ | with_reducible refine k_aCons ?_ | with_reducible refine k_aNil ?_ | with_reducible refine k_bT ?_ | with_reducible refine k_onB ?_
    | with_reducible refine k_call1 ?_ | with_reducible refine k_call2 ?_ | with_reducible refine k_call3 ?_ | with_reducible refine k_expr ?_ | with_reducible refine k_for ?_ | with_reducible refine k_meth ?_ | with_reducible refine k_sub ?_ | with_reducible refine k_par ?_ | with_reducible refine k_tup ?_
    | with_reducible refine k_iAny ?_ | with_reducible refine k_iRng1 ?_ | with_reducible refine k_iRng2 ?_ | with_reducible refine k_iEnm ?_ | with_reducible refine k_then_rt ?_ | with_reducible refine k_then_bk ?_ | with_reducible refine k_then_ct ?_ | with_reducible refine k_skip ?_ | with_reducible refine k_break ?_ | with_reducible refine k_cont ?_ | with_reducible refine k_retN ?_
    | with_reducible refine k_e1 ?_ | with_reducible refine k_not ?_ | with_reducible refine k_and ?_ | with_reducible refine k_or ?_ | with_reducible refine k_ifE ?_ | with_reducible refine k_chain ?_ | with_reducible refine k_slice ?_ | with_reducible refine k_oN ?_ | with_reducible refine k_oS ?_ | with_reducible refine k_lc ?_
    | with_reducible refine k_bAnd ?_ | with_reducible refine k_bOr ?_ | with_reducible refine k_bNot ?_ | with_reducible refine k_yes ?_ | with_reducible refine k_onI ?_ | with_reducible refine k_onR ?_ | with_reducible refine k_onL1 ?_ | with_reducible refine k_onL2 ?_ | with_reducible refine k_itT ?_ | with_reducible refine k_itS ?_
    | with_reducible refine k_ends_rt ?_ | with_reducible refine k_ends_nx ?_ | with_reducible refine k_true ?_ | with_reducible refine k_false ?_ | with_reducible refine k_ntrue ?_ | with_reducible refine k_nfalse ?_
    | with_reducible refine k_addI ?_ | with_reducible refine k_subI ?_ | with_reducible refine k_intI ?_ | with_reducible refine k_ltI ?_ | with_reducible refine k_gtI ?_ | with_reducible refine k_leI ?_ | with_reducible refine k_geI ?_ | with_reducible refine k_eqI ?_ | with_reducible refine k_neI ?_ | with_reducible refine k_eqS ?_ | with_reducible refine k_neS ?_ | with_reducible refine k_negI ?_ | with_reducible refine k_notB ?_ | with_reducible refine k_maxI ?_ | with_reducible refine k_minI ?_ | with_reducible refine k_lenS ?_
    | ((with_reducible refine k_mulI ?e ?_); (case e => omega)) | ((with_reducible refine k_divI ?e ?e2 ?_); (case e => omega); (case e2 => omega)) | ((with_reducible refine k_modI ?e ?_); (case e => omega)) | ((with_reducible refine k_powI ?e ?_); (case e => decide))
    | ((with_reducible refine k_lst ?e ?_); (case e => first | decide | (simp; done) | (simp; omega))) | ((with_reducible refine k_tupD ?e ?_); (case e => first | decide | (simp; done)))
    | ((with_reducible refine' k_lenL ?e ?_); (case e => assumption)) | ((with_reducible refine' k_ixL ?e ?e2 ?_); (case e => assumption); (case e2 => first | assumption | rfl)) | ((with_reducible refine' k_ixT ?e2 ?_); (case e2 => first | assumption | rfl)) | ((with_reducible refine' k_itR ?e ?_); (case e => assumption)))
  refine k_isiS ?_
  repeat (first
    | with_reducible refine k_seq ?_ | ((with_reducible refine k_then_nx ?_); try dsimp only [put]) | with_reducible refine k_e2 ?_ | ((with_reducible refine' k_var ?e ?_); (case e => rfl)) | with_reducible refine k_const ?_
    | with_reducible refine k_set ?_ | with_reducible refine k_if ?_ | with_reducible refine k_ret ?_ | with_reducible refine k_eL ?_ | with_reducible refine k_aCons ?_ | with_reducible refine k_aNil ?_ | with_reducible refine k_bT ?_ | with_reducible refine k_onB ?_
    | with_reducible refine k_call1 ?_ | with_reducible refine k_call2 ?_ | with_reducible refine k_call3 ?_ | with_reducible refine k_expr ?_ | with_reducible refine k_for ?_ | with_reducible refine k_meth ?_ | with_reducible refine k_sub ?_ | with_reducible refine k_par ?_ | with_reducible refine k_tup ?_
    | with_reducible refine k_iAny ?_ | with_reducible refine k_iRng1 ?_ | with_reducible refine k_iRng2 ?_ | with_reducible refine k_iEnm ?_ | with_reducible refine k_then_rt ?_ | with_reducible refine k_then_bk ?_ | with_reducible refine k_then_ct ?_ | with_reducible refine k_skip ?_ | with_reducible refine k_break ?_ | with_reducible refine k_cont ?_ | with_reducible refine k_retN ?_
    | with_reducible refine k_e1 ?_ | with_reducible refine k_not ?_ | with_reducible refine k_and ?_ | with_reducible refine k_or ?_ | with_reducible refine k_ifE ?_ | with_reducible refine k_chain ?_ | with_reducible refine k_slice ?_ | with_reducible refine k_oN ?_ | with_reducible refine k_oS ?_ | with_reducible refine k_lc ?_
    | with_reducible refine k_bAnd ?_ | with_reducible refine k_bOr ?_ | with_reducible refine k_bNot ?_ | with_reducible refine k_yes ?_ | with_reducible refine k_onI ?_ | with_reducible refine k_onR ?_ | with_reducible refine k_onL1 ?_ | with_reducible refine k_onL2 ?_ | with_reducible refine k_itT ?_ | with_reducible refine k_itS ?_
    | with_reducible refine k_ends_rt ?_ | with_reducible refine k_ends_nx ?_ | with_reducible refine k_true ?_ | with_reducible refine k_false ?_ | with_reducible refine k_ntrue ?_ | with_reducible refine k_nfalse ?_
    | with_reducible refine k_addI ?_ | with_reducible refine k_subI ?_ | with_reducible refine k_intI ?_ | with_reducible refine k_ltI ?_ | with_reducible refine k_gtI ?_ | with_reducible refine k_leI ?_ | with_reducible refine k_geI ?_ | with_reducible refine k_eqI ?_ | with_reducible refine k_neI ?_ | with_reducible refine k_eqS ?_ | with_reducible refine k_neS ?_ | with_reducible refine k_negI ?_ | with_reducible refine k_notB ?_ | with_reducible refine k_maxI ?_ | with_reducible refine k_minI ?_ | with_reducible refine k_lenS ?_
    | ((with_reducible refine k_mulI ?e ?_); (case e => omega)) | ((with_reducible refine k_divI ?e ?e2 ?_); (case e => omega); (case e2 => omega)) | ((with_reducible refine k_modI ?e ?_); (case e => omega)) | ((with_reducible refine k_powI ?e ?_); (case e => decide))
    | ((with_reducible refine k_lst ?e ?_); (case e => first | decide | (simp; done) | (simp; omega))) | ((with_reducible refine k_tupD ?e ?_); (case e => first | decide | (simp; done)))
    | ((with_reducible refine' k_lenL ?e ?_); (case e => assumption)) | ((with_reducible refine' k_ixL ?e ?e2 ?_); (case e => assumption); (case e2 => first | assumption | rfl)) | ((with_reducible refine' k_ixT ?e2 ?_); (case e2 => first | assumption | rfl)) | ((with_reducible refine' k_itR ?e ?_); (case e => assumption)))
  refine k_lenT (by omega) ?_
  repeat (first
    | with_reducible refine k_seq ?_ | ((with_reducible refine k_then_nx ?_); try dsimp only [put]) | with_reducible refine k_e2 ?_ | ((with_reducible refine' k_var ?e ?_); (case e => rfl)) | with_reducible refine k_const ?_
    | with_reducible refine k_set ?_ | with_reducible refine k_if ?_ | with_reducible refine k_ret ?_ | with_reducible refine k_eL ?_ | with_reducible refine k_aCons ?_ | with_reducible refine k_aNil ?_ | with_reducible refine k_bT ?_ | with_reducible refine k_onB ?_
    | with_reducible refine k_call1 ?_ | with_reducible refine k_call2 ?_ | with_reducible refine k_call3 ?_ | with_reducible refine k_expr ?_ | with_reducible refine k_for ?_ | with_reducible refine k_meth ?_ | with_reducible refine k_sub ?_ | with_reducible refine k_par ?_ | with_reducible refine k_tup ?_
    | with_reducible refine k_iAny ?_ | with_reducible refine k_iRng1 ?_ | with_reducible refine k_iRng2 ?_ | with_reducible refine k_iEnm ?_ | with_reducible refine k_then_rt ?_ | with_reducible refine k_then_bk ?_ | with_reducible refine k_then_ct ?_ | with_reducible refine k_skip ?_ | with_reducible refine k_break ?_ | with_reducible refine k_cont ?_ | with_reducible refine k_retN ?_
    | with_reducible refine k_e1 ?_ | with_reducible refine k_not ?_ | with_reducible refine k_and ?_ | with_reducible refine k_or ?_ | with_reducible refine k_ifE ?_ | with_reducible refine k_chain ?_ | with_reducible refine k_slice ?_ | with_reducible refine k_oN ?_ | with_reducible refine k_oS ?_ | with_reducible refine k_lc ?_
    | with_reducible refine k_bAnd ?_ | with_reducible refine k_bOr ?_ | with_reducible refine k_bNot ?_ | with_reducible refine k_yes ?_ | with_reducible refine k_onI ?_ | with_reducible refine k_onR ?_ | with_reducible refine k_onL1 ?_ | with_reducible refine k_onL2 ?_ | with_reducible refine k_itT ?_ | with_reducible refine k_itS ?_
    | with_reducible refine k_ends_rt ?_ | with_reducible refine k_ends_nx ?_ | with_reducible refine k_true ?_ | with_reducible refine k_false ?_ | with_reducible refine k_ntrue ?_ | with_reducible refine k_nfalse ?_
    | with_reducible refine k_addI ?_ | with_reducible refine k_subI ?_ | with_reducible refine k_intI ?_ | with_reducible refine k_ltI ?_ | with_reducible refine k_gtI ?_ | with_reducible refine k_leI ?_ | with_reducible refine k_geI ?_ | with_reducible refine k_eqI ?_ | with_reducible refine k_neI ?_ | with_reducible refine k_eqS ?_ | with_reducible refine k_neS ?_ | with_reducible refine k_negI ?_ | with_reducible refine k_notB ?_ | with_reducible refine k_maxI ?_ | with_reducible refine k_minI ?_ | with_reducible refine k_lenS ?_
    | ((with_reducible refine k_mulI ?e ?_); (case e => omega)) | ((with_reducible refine k_divI ?e ?e2 ?_); (case e => omega); (case e2 => omega)) | ((with_reducible refine k_modI ?e ?_); (case e => omega)) | ((with_reducible refine k_powI ?e ?_); (case e => decide))
    | ((with_reducible refine k_lst ?e ?_); (case e => first | decide | (simp; done) | (simp; omega))) | ((with_reducible refine k_tupD ?e ?_); (case e => first | decide | (simp; done)))
    | ((with_reducible refine' k_lenL ?e ?_); (case e => assumption)) | ((with_reducible refine' k_ixL ?e ?e2 ?_); (case e => assumption); (case e2 => first | assumption | rfl)) | ((with_reducible refine' k_ixT ?e2 ?_); (case e2 => first | assumption | rfl)) | ((with_reducible refine' k_itR ?e ?_); (case e => assumption)))
  refine k_decT (by omega) ?_
  repeat (first
    | with_reducible refine k_seq ?_ | ((with_reducible refine k_then_nx ?_); try dsimp only [put]) | with_reducible refine k_e2 ?_ | ((with_reducible refine' k_var ?e ?_); (case e => rfl)) | with_reducible refine k_const ?_
    | with_reducible refine k_set ?_ | with_reducible refine k_if ?_ | with_reducible refine k_ret ?_ | with_reducible refine k_eL ?_ | with_reducible refine k_aCons ?_ | with_reducible refine k_aNil ?_ | with_reducible refine k_bT ?_ | with_reducible refine k_onB ?_
    | with_reducible refine k_call1 ?_ | with_reducible refine k_call2 ?_ | with_reducible refine k_call3 ?_ | with_reducible refine k_expr ?_ | with_reducible refine k_for ?_ | with_reducible refine k_meth ?_ | with_reducible refine k_sub ?_ | with_reducible refine k_par ?_ | with_reducible refine k_tup ?_
    | with_reducible refine k_iAny ?_ | with_reducible refine k_iRng1 ?_ | with_reducible refine k_iRng2 ?_ | with_reducible refine k_iEnm ?_ | with_reducible refine k_then_rt ?_ | with_reducible refine k_then_bk ?_ | with_reducible refine k_then_ct ?_ | with_reducible refine k_skip ?_ | with_reducible refine k_break ?_ | with_reducible refine k_cont ?_ | with_reducible refine k_retN ?_
    | with_reducible refine k_e1 ?_ | with_reducible refine k_not ?_ | with_reducible refine k_and ?_ | with_reducible refine k_or ?_ | with_reducible refine k_ifE ?_ | with_reducible refine k_chain ?_ | with_reducible refine k_slice ?_ | with_reducible refine k_oN ?_ | with_reducible refine k_oS ?_ | with_reducible refine k_lc ?_
    | with_reducible refine k_bAnd ?_ | with_reducible refine k_bOr ?_ | with_reducible refine k_bNot ?_ | with_reducible refine k_yes ?_ | with_reducible refine k_onI ?_ | with_reducible refine k_onR ?_ | with_reducible refine k_onL1 ?_ | with_reducible refine k_onL2 ?_ | with_reducible refine k_itT ?_ | with_reducible refine k_itS ?_
    | with_reducible refine k_ends_rt ?_ | with_reducible refine k_ends_nx ?_ | with_reducible refine k_true ?_ | with_reducible refine k_false ?_ | with_reducible refine k_ntrue ?_ | with_reducible refine k_nfalse ?_
    | with_reducible refine k_addI ?_ | with_reducible refine k_subI ?_ | with_reducible refine k_intI ?_ | with_reducible refine k_ltI ?_ | with_reducible refine k_gtI ?_ | with_reducible refine k_leI ?_ | with_reducible refine k_geI ?_ | with_reducible refine k_eqI ?_ | with_reducible refine k_neI ?_ | with_reducible refine k_eqS ?_ | with_reducible refine k_neS ?_ | with_reducible refine k_negI ?_ | with_reducible refine k_notB ?_ | with_reducible refine k_maxI ?_ | with_reducible refine k_minI ?_ | with_reducible refine k_lenS ?_
    | ((with_reducible refine k_mulI ?e ?_); (case e => omega)) | ((with_reducible refine k_divI ?e ?e2 ?_); (case e => omega); (case e2 => omega)) | ((with_reducible refine k_modI ?e ?_); (case e => omega)) | ((with_reducible refine k_powI ?e ?_); (case e => decide))
    | ((with_reducible refine k_lst ?e ?_); (case e => first | decide | (simp; done) | (simp; omega))) | ((with_reducible refine k_tupD ?e ?_); (case e => first | decide | (simp; done)))
    | ((with_reducible refine' k_lenL ?e ?_); (case e => assumption)) | ((with_reducible refine' k_ixL ?e ?e2 ?_); (case e => assumption); (case e2 => first | assumption | rfl)) | ((with_reducible refine' k_ixT ?e2 ?_); (case e2 => first | assumption | rfl)) | ((with_reducible refine' k_itR ?e ?_); (case e => assumption)))
  rw [decide_eq_true (show ((x.length : Nat) : Int) ≤ 8 by omega)]
  repeat (first
    | with_reducible refine k_seq ?_ | ((with_reducible refine k_then_nx ?_); try dsimp only [put]) | with_reducible refine k_e2 ?_ | ((with_reducible refine' k_var ?e ?_); (case e => rfl)) | with_reducible refine k_const ?_
    | with_reducible refine k_set ?_ | with_reducible refine k_if ?_ | with_reducible refine k_ret ?_ | with_reducible refine k_eL ?_ | with_reducible refine k_aCons ?_ | with_reducible refine k_aNil ?_ | with_reducible refine k_bT ?_ | with_reducible refine k_onB ?_
    | with_reducible refine k_call1 ?_ | with_reducible refine k_call2 ?_ | with_reducible refine k_call3 ?_ | with_reducible refine k_expr ?_ | with_reducible refine k_for ?_ | with_reducible refine k_meth ?_ | with_reducible refine k_sub ?_ | with_reducible refine k_par ?_ | with_reducible refine k_tup ?_
    | with_reducible refine k_iAny ?_ | with_reducible refine k_iRng1 ?_ | with_reducible refine k_iRng2 ?_ | with_reducible refine k_iEnm ?_ | with_reducible refine k_then_rt ?_ | with_reducible refine k_then_bk ?_ | with_reducible refine k_then_ct ?_ | with_reducible refine k_skip ?_ | with_reducible refine k_break ?_ | with_reducible refine k_cont ?_ | with_reducible refine k_retN ?_
    | with_reducible refine k_e1 ?_ | with_reducible refine k_not ?_ | with_reducible refine k_and ?_ | with_reducible refine k_or ?_ | with_reducible refine k_ifE ?_ | with_reducible refine k_chain ?_ | with_reducible refine k_slice ?_ | with_reducible refine k_oN ?_ | with_reducible refine k_oS ?_ | with_reducible refine k_lc ?_
    | with_reducible refine k_bAnd ?_ | with_reducible refine k_bOr ?_ | with_reducible refine k_bNot ?_ | with_reducible refine k_yes ?_ | with_reducible refine k_onI ?_ | with_reducible refine k_onR ?_ | with_reducible refine k_onL1 ?_ | with_reducible refine k_onL2 ?_ | with_reducible refine k_itT ?_ | with_reducible refine k_itS ?_
    | with_reducible refine k_ends_rt ?_ | with_reducible refine k_ends_nx ?_ | with_reducible refine k_true ?_ | with_reducible refine k_false ?_ | with_reducible refine k_ntrue ?_ | with_reducible refine k_nfalse ?_
    | with_reducible refine k_addI ?_ | with_reducible refine k_subI ?_ | with_reducible refine k_intI ?_ | with_reducible refine k_ltI ?_ | with_reducible refine k_gtI ?_ | with_reducible refine k_leI ?_ | with_reducible refine k_geI ?_ | with_reducible refine k_eqI ?_ | with_reducible refine k_neI ?_ | with_reducible refine k_eqS ?_ | with_reducible refine k_neS ?_ | with_reducible refine k_negI ?_ | with_reducible refine k_notB ?_ | with_reducible refine k_maxI ?_ | with_reducible refine k_minI ?_ | with_reducible refine k_lenS ?_
    | ((with_reducible refine k_mulI ?e ?_); (case e => omega)) | ((with_reducible refine k_divI ?e ?e2 ?_); (case e => omega); (case e2 => omega)) | ((with_reducible refine k_modI ?e ?_); (case e => omega)) | ((with_reducible refine k_powI ?e ?_); (case e => decide))
    | ((with_reducible refine k_lst ?e ?_); (case e => first | decide | (simp; done) | (simp; omega))) | ((with_reducible refine k_tupD ?e ?_); (case e => first | decide | (simp; done)))
    | ((with_reducible refine' k_lenL ?e ?_); (case e => assumption)) | ((with_reducible refine' k_ixL ?e ?e2 ?_); (case e => assumption); (case e2 => first | assumption | rfl)) | ((with_reducible refine' k_ixT ?e2 ?_); (case e2 => first | assumption | rfl)) | ((with_reducible refine' k_itR ?e ?_); (case e => assumption)))
  refine st_lcJ (J := .str x) (xs := x.cps.toList.map fun c => .str ⟨#[c]⟩) (fun _ => true) (fun h y v => v = .bl true) (fun i h _ => by simp [itAt]) (by
    have : x.cps.toList.length = x.length := by simp [Str.length]
    simp only [List.length_map, this]; omega) (fun _ _ _ _ r _ => r) ?_ ?_
  · intro y g hy xt lt
    simp only [List.mem_map] at hy
    obtain ⟨c, hc, rfl⟩ := hy
    refine ⟨_, rfl, k_yes ⟨rfl, Ext.refl, fun _ => ?_⟩⟩
    repeat (first
      | with_reducible refine k_seq ?_ | ((with_reducible refine k_then_nx ?_); try dsimp only [put]) | with_reducible refine k_e2 ?_ | ((with_reducible refine' k_var ?e ?_); (case e => rfl)) | with_reducible refine k_const ?_
      | with_reducible refine k_set ?_ | with_reducible refine k_if ?_ | with_reducible refine k_ret ?_ | with_reducible refine k_eL ?_ | with_reducible refine k_aCons ?_ | with_reducible refine k_aNil ?_ | with_reducible refine k_bT ?_ | with_reducible refine k_onB ?_
      | with_reducible refine k_call1 ?_ | with_reducible refine k_call2 ?_ | with_reducible refine k_call3 ?_ | with_reducible refine k_expr ?_ | with_reducible refine k_for ?_ | with_reducible refine k_meth ?_ | with_reducible refine k_sub ?_ | with_reducible refine k_par ?_ | with_reducible refine k_tup ?_
      | with_reducible refine k_iAny ?_ | with_reducible refine k_iRng1 ?_ | with_reducible refine k_iRng2 ?_ | with_reducible refine k_iEnm ?_ | with_reducible refine k_then_rt ?_ | with_reducible refine k_then_bk ?_ | with_reducible refine k_then_ct ?_ | with_reducible refine k_skip ?_ | with_reducible refine k_break ?_ | with_reducible refine k_cont ?_ | with_reducible refine k_retN ?_
      | with_reducible refine k_e1 ?_ | with_reducible refine k_not ?_ | with_reducible refine k_and ?_ | with_reducible refine k_or ?_ | with_reducible refine k_ifE ?_ | with_reducible refine k_chain ?_ | with_reducible refine k_slice ?_ | with_reducible refine k_oN ?_ | with_reducible refine k_oS ?_ | with_reducible refine k_lc ?_
      | with_reducible refine k_bAnd ?_ | with_reducible refine k_bOr ?_ | with_reducible refine k_bNot ?_ | with_reducible refine k_yes ?_ | with_reducible refine k_onI ?_ | with_reducible refine k_onR ?_ | with_reducible refine k_onL1 ?_ | with_reducible refine k_onL2 ?_ | with_reducible refine k_itT ?_ | with_reducible refine k_itS ?_
      | with_reducible refine k_ends_rt ?_ | with_reducible refine k_ends_nx ?_ | with_reducible refine k_true ?_ | with_reducible refine k_false ?_ | with_reducible refine k_ntrue ?_ | with_reducible refine k_nfalse ?_
      | with_reducible refine k_addI ?_ | with_reducible refine k_subI ?_ | with_reducible refine k_intI ?_ | with_reducible refine k_ltI ?_ | with_reducible refine k_gtI ?_ | with_reducible refine k_leI ?_ | with_reducible refine k_geI ?_ | with_reducible refine k_eqI ?_ | with_reducible refine k_neI ?_ | with_reducible refine k_eqS ?_ | with_reducible refine k_neS ?_ | with_reducible refine k_negI ?_ | with_reducible refine k_notB ?_ | with_reducible refine k_maxI ?_ | with_reducible refine k_minI ?_ | with_reducible refine k_lenS ?_
      | ((with_reducible refine k_mulI ?e ?_); (case e => omega)) | ((with_reducible refine k_divI ?e ?e2 ?_); (case e => omega); (case e2 => omega)) | ((with_reducible refine k_modI ?e ?_); (case e => omega)) | ((with_reducible refine k_powI ?e ?_); (case e => decide))
      | ((with_reducible refine k_lst ?e ?_); (case e => first | decide | (simp; done) | (simp; omega))) | ((with_reducible refine k_tupD ?e ?_); (case e => first | decide | (simp; done)))
      | ((with_reducible refine' k_lenL ?e ?_); (case e => assumption)) | ((with_reducible refine' k_ixL ?e ?e2 ?_); (case e => assumption); (case e2 => first | assumption | rfl)) | ((with_reducible refine' k_ixT ?e2 ?_); (case e2 => first | assumption | rfl)) | ((with_reducible refine' k_itR ?e ?_); (case e => assumption)))
    refine k_inS ?_
    rw [o3 c hc]
    exact ⟨rfl, Ext.refl⟩
  · intro g vs xt lt e al
    repeat (first
      | with_reducible refine k_seq ?_ | ((with_reducible refine k_then_nx ?_); try dsimp only [put]) | with_reducible refine k_e2 ?_ | ((with_reducible refine' k_var ?e ?_); (case e => rfl)) | with_reducible refine k_const ?_
      | with_reducible refine k_set ?_ | with_reducible refine k_if ?_ | with_reducible refine k_ret ?_ | with_reducible refine k_eL ?_ | with_reducible refine k_aCons ?_ | with_reducible refine k_aNil ?_ | with_reducible refine k_bT ?_ | with_reducible refine k_onB ?_
      | with_reducible refine k_call1 ?_ | with_reducible refine k_call2 ?_ | with_reducible refine k_call3 ?_ | with_reducible refine k_expr ?_ | with_reducible refine k_for ?_ | with_reducible refine k_meth ?_ | with_reducible refine k_sub ?_ | with_reducible refine k_par ?_ | with_reducible refine k_tup ?_
      | with_reducible refine k_iAny ?_ | with_reducible refine k_iRng1 ?_ | with_reducible refine k_iRng2 ?_ | with_reducible refine k_iEnm ?_ | with_reducible refine k_then_rt ?_ | with_reducible refine k_then_bk ?_ | with_reducible refine k_then_ct ?_ | with_reducible refine k_skip ?_ | with_reducible refine k_break ?_ | with_reducible refine k_cont ?_ | with_reducible refine k_retN ?_
      | with_reducible refine k_e1 ?_ | with_reducible refine k_not ?_ | with_reducible refine k_and ?_ | with_reducible refine k_or ?_ | with_reducible refine k_ifE ?_ | with_reducible refine k_chain ?_ | with_reducible refine k_slice ?_ | with_reducible refine k_oN ?_ | with_reducible refine k_oS ?_ | with_reducible refine k_lc ?_
      | with_reducible refine k_bAnd ?_ | with_reducible refine k_bOr ?_ | with_reducible refine k_bNot ?_ | with_reducible refine k_yes ?_ | with_reducible refine k_onI ?_ | with_reducible refine k_onR ?_ | with_reducible refine k_onL1 ?_ | with_reducible refine k_onL2 ?_ | with_reducible refine k_itT ?_ | with_reducible refine k_itS ?_
      | with_reducible refine k_ends_rt ?_ | with_reducible refine k_ends_nx ?_ | with_reducible refine k_true ?_ | with_reducible refine k_false ?_ | with_reducible refine k_ntrue ?_ | with_reducible refine k_nfalse ?_
      | with_reducible refine k_addI ?_ | with_reducible refine k_subI ?_ | with_reducible refine k_intI ?_ | with_reducible refine k_ltI ?_ | with_reducible refine k_gtI ?_ | with_reducible refine k_leI ?_ | with_reducible refine k_geI ?_ | with_reducible refine k_eqI ?_ | with_reducible refine k_neI ?_ | with_reducible refine k_eqS ?_ | with_reducible refine k_neS ?_ | with_reducible refine k_negI ?_ | with_reducible refine k_notB ?_ | with_reducible refine k_maxI ?_ | with_reducible refine k_minI ?_ | with_reducible refine k_lenS ?_
      | ((with_reducible refine k_mulI ?e ?_); (case e => omega)) | ((with_reducible refine k_divI ?e ?e2 ?_); (case e => omega); (case e2 => omega)) | ((with_reducible refine k_modI ?e ?_); (case e => omega)) | ((with_reducible refine k_powI ?e ?_); (case e => decide))
      | ((with_reducible refine k_lst ?e ?_); (case e => first | decide | (simp; done) | (simp; omega))) | ((with_reducible refine k_tupD ?e ?_); (case e => first | decide | (simp; done)))
      | ((with_reducible refine' k_lenL ?e ?_); (case e => assumption)) | ((with_reducible refine' k_ixL ?e ?e2 ?_); (case e => assumption); (case e2 => first | assumption | rfl)) | ((with_reducible refine' k_ixT ?e2 ?_); (case e2 => first | assumption | rfl)) | ((with_reducible refine' k_itR ?e ?_); (case e => assumption)))
    refine k_allT e ?_ ?_
    · intro v hv
      obtain ⟨i, hi, ei⟩ := List.getElem_of_mem hv
      have := al.fn (f := fun _ => Pv.bl true)
      rw [this] at hv
      simp at hv
      exact hv.2.symm
    · repeat (first
        | with_reducible refine k_seq ?_ | ((with_reducible refine k_then_nx ?_); try dsimp only [put]) | with_reducible refine k_e2 ?_ | ((with_reducible refine' k_var ?e ?_); (case e => rfl)) | with_reducible refine k_const ?_
        | with_reducible refine k_set ?_ | with_reducible refine k_if ?_ | with_reducible refine k_ret ?_ | with_reducible refine k_eL ?_ | with_reducible refine k_aCons ?_ | with_reducible refine k_aNil ?_ | with_reducible refine k_bT ?_ | with_reducible refine k_onB ?_
        | with_reducible refine k_call1 ?_ | with_reducible refine k_call2 ?_ | with_reducible refine k_call3 ?_ | with_reducible refine k_expr ?_ | with_reducible refine k_for ?_ | with_reducible refine k_meth ?_ | with_reducible refine k_sub ?_ | with_reducible refine k_par ?_ | with_reducible refine k_tup ?_
        | with_reducible refine k_iAny ?_ | with_reducible refine k_iRng1 ?_ | with_reducible refine k_iRng2 ?_ | with_reducible refine k_iEnm ?_ | with_reducible refine k_then_rt ?_ | with_reducible refine k_then_bk ?_ | with_reducible refine k_then_ct ?_ | with_reducible refine k_skip ?_ | with_reducible refine k_break ?_ | with_reducible refine k_cont ?_ | with_reducible refine k_retN ?_
        | with_reducible refine k_e1 ?_ | with_reducible refine k_not ?_ | with_reducible refine k_and ?_ | with_reducible refine k_or ?_ | with_reducible refine k_ifE ?_ | with_reducible refine k_chain ?_ | with_reducible refine k_slice ?_ | with_reducible refine k_oN ?_ | with_reducible refine k_oS ?_ | with_reducible refine k_lc ?_
        | with_reducible refine k_bAnd ?_ | with_reducible refine k_bOr ?_ | with_reducible refine k_bNot ?_ | with_reducible refine k_yes ?_ | with_reducible refine k_onI ?_ | with_reducible refine k_onR ?_ | with_reducible refine k_onL1 ?_ | with_reducible refine k_onL2 ?_ | with_reducible refine k_itT ?_ | with_reducible refine k_itS ?_
        | with_reducible refine k_ends_rt ?_ | with_reducible refine k_ends_nx ?_ | with_reducible refine k_true ?_ | with_reducible refine k_false ?_ | with_reducible refine k_ntrue ?_ | with_reducible refine k_nfalse ?_
        | with_reducible refine k_addI ?_ | with_reducible refine k_subI ?_ | with_reducible refine k_intI ?_ | with_reducible refine k_ltI ?_ | with_reducible refine k_gtI ?_ | with_reducible refine k_leI ?_ | with_reducible refine k_geI ?_ | with_reducible refine k_eqI ?_ | with_reducible refine k_neI ?_ | with_reducible refine k_eqS ?_ | with_reducible refine k_neS ?_ | with_reducible refine k_negI ?_ | with_reducible refine k_notB ?_ | with_reducible refine k_maxI ?_ | with_reducible refine k_minI ?_ | with_reducible refine k_lenS ?_
        | ((with_reducible refine k_mulI ?e ?_); (case e => omega)) | ((with_reducible refine k_divI ?e ?e2 ?_); (case e => omega); (case e2 => omega)) | ((with_reducible refine k_modI ?e ?_); (case e => omega)) | ((with_reducible refine k_powI ?e ?_); (case e => decide))
        | ((with_reducible refine k_lst ?e ?_); (case e => first | decide | (simp; done) | (simp; omega))) | ((with_reducible refine k_tupD ?e ?_); (case e => first | decide | (simp; done)))
        | ((with_reducible refine' k_lenL ?e ?_); (case e => assumption)) | ((with_reducible refine' k_ixL ?e ?e2 ?_); (case e => assumption); (case e2 => first | assumption | rfl)) | ((with_reducible refine' k_ixT ?e2 ?_); (case e2 => first | assumption | rfl)) | ((with_reducible refine' k_itR ?e ?_); (case e => assumption)))
      exact ⟨rfl, xt⟩
theorem check_leaves_sat {h : Hh} {p : Nat} {xs : List Str} (ep : LS h p xs) (ok : ∀ x ∈ xs, okN x) (nd : xs.Nodup) (h2 : 2 ≤ xs.length) (h3 : xs.length ≤ 30) : Sat (d_check_leaves [.ref p, .int 30] h) (fun v h' => v = .non ∧ Ext h h') NoX := by
  unfold d_check_leaves
  refine st_fn' (σ0 := [some (.ref p), some (.int 30), none]) rfl ?_
  repeat (first
    | with_reducible refine k_seq ?_ | ((with_reducible refine k_then_nx ?_); try dsimp only [put]) | with_reducible refine k_e2 ?_ | ((with_reducible refine' k_var ?e ?_); (case e => rfl)) | with_reducible refine k_const ?_
    | with_reducible refine k_set ?_ | with_reducible refine k_if ?_ | with_reducible refine k_ret ?_ | with_reducible refine k_eL ?_ | with_reducible refine k_aCons ?_ | with_reducible refine k_aNil ?_ | with_reducible refine k_bT ?_ | with_reducible refine k_onB ?_
    | with_reducible refine k_call1 ?_ | with_reducible refine k_call2 ?_ | with_reducible refine k_call3 ?_ | with_reducible refine k_expr ?_ | with_reducible refine k_for ?_ | with_reducible refine k_meth ?_ | with_reducible refine k_sub ?_ | with_reducible refine k_par ?_ | with_reducible refine k_tup ?_
    | with_reducible refine k_iAny ?_ | with_reducible refine k_iRng1 ?_ | with_reducible refine k_iRng2 ?_ | with_reducible refine k_iEnm ?_ | with_reducible refine k_then_rt ?_ | with_reducible refine k_then_bk ?_ | with_reducible refine k_then_ct ?_ | with_reducible refine k_skip ?_ | with_reducible refine k_break ?_ | with_reducible refine k_cont ?_ | with_reducible refine k_retN ?_
    | with_reducible refine k_e1 ?_ | with_reducible refine k_not ?_ | with_reducible refine k_and ?_ | with_reducible refine k_or ?_ | with_reducible refine k_ifE ?_ | with_reducible refine k_chain ?_ | with_reducible refine k_slice ?_ | with_reducible refine k_oN ?_ | with_reducible refine k_oS ?_ | with_reducible refine k_lc ?_
    | with_reducible refine k_bAnd ?_ | with_reducible refine k_bOr ?_ | with_reducible refine k_bNot ?_ | with_reducible refine k_yes ?_ | with_reducible refine k_onI ?_ | with_reducible refine k_onR ?_ | with_reducible refine k_onL1 ?_ | with_reducible refine k_onL2 ?_ | with_reducible refine k_itT ?_ | with_reducible refine k_itS ?_
    | with_reducible refine k_ends_rt ?_ | with_reducible refine k_ends_nx ?_ | with_reducible refine k_true ?_ | with_reducible refine k_false ?_ | with_reducible refine k_ntrue ?_ | with_reducible refine k_nfalse ?_
    | with_reducible refine k_addI ?_ | with_reducible refine k_subI ?_ | with_reducible refine k_intI ?_ | with_reducible refine k_ltI ?_ | with_reducible refine k_gtI ?_ | with_reducible refine k_leI ?_ | with_reducible refine k_geI ?_ | with_reducible refine k_eqI ?_ | with_reducible refine k_neI ?_ | with_reducible refine k_eqS ?_ | with_reducible refine k_neS ?_ | with_reducible refine k_negI ?_ | with_reducible refine k_notB ?_ | with_reducible refine k_maxI ?_ | with_reducible refine k_minI ?_ | with_reducible refine k_lenS ?_
    | ((with_reducible refine k_mulI ?e ?_); (case e => omega)) | ((with_reducible refine k_divI ?e ?e2 ?_); (case e => omega); (case e2 => omega)) | ((with_reducible refine k_modI ?e ?_); (case e => omega)) | ((with_reducible refine k_powI ?e ?_); (case e => decide))
    | ((with_reducible refine k_lst ?e ?_); (case e => first | decide | (simp; done) | (simp; omega))) | ((with_reducible refine k_tupD ?e ?_); (case e => first | decide | (simp; done)))
    | ((with_reducible refine' k_lenL ?e ?_); (case e => assumption)) | ((with_reducible refine' k_ixL ?e ?e2 ?_); (case e => assumption); (case e2 => first | assumption | rfl)) | ((with_reducible refine' k_ixT ?e2 ?_); (case e2 => first | assumption | rfl)) | ((with_reducible refine' k_itR ?e ?_); (case e => assumption)))
  refine k_isiL ep ?_
  repeat (first
    | with_reducible refine k_seq ?_ | ((with_reducible refine k_then_nx ?_); try dsimp only [put]) | with_reducible refine k_e2 ?_ | ((with_reducible refine' k_var ?e ?_); (case e => rfl)) | with_reducible refine k_const ?_
    | with_reducible refine k_set ?_ | with_reducible refine k_if ?_ | with_reducible refine k_ret ?_ | with_reducible refine k_eL ?_ | with_reducible refine k_aCons ?_ | with_reducible refine k_aNil ?_ | with_reducible refine k_bT ?_ | with_reducible refine k_onB ?_
    | with_reducible refine k_call1 ?_ | with_reducible refine k_call2 ?_ | with_reducible refine k_call3 ?_ | with_reducible refine k_expr ?_ | with_reducible refine k_for ?_ | with_reducible refine k_meth ?_ | with_reducible refine k_sub ?_ | with_reducible refine k_par ?_ | with_reducible refine k_tup ?_
    | with_reducible refine k_iAny ?_ | with_reducible refine k_iRng1 ?_ | with_reducible refine k_iRng2 ?_ | with_reducible refine k_iEnm ?_ | with_reducible refine k_then_rt ?_ | with_reducible refine k_then_bk ?_ | with_reducible refine k_then_ct ?_ | with_reducible refine k_skip ?_ | with_reducible refine k_break ?_ | with_reducible refine k_cont ?_ | with_reducible refine k_retN ?_
    | with_reducible refine k_e1 ?_ | with_reducible refine k_not ?_ | with_reducible refine k_and ?_ | with_reducible refine k_or ?_ | with_reducible refine k_ifE ?_ | with_reducible refine k_chain ?_ | with_reducible refine k_slice ?_ | with_reducible refine k_oN ?_ | with_reducible refine k_oS ?_ | with_reducible refine k_lc ?_
    | with_reducible refine k_bAnd ?_ | with_reducible refine k_bOr ?_ | with_reducible refine k_bNot ?_ | with_reducible refine k_yes ?_ | with_reducible refine k_onI ?_ | with_reducible refine k_onR ?_ | with_reducible refine k_onL1 ?_ | with_reducible refine k_onL2 ?_ | with_reducible refine k_itT ?_ | with_reducible refine k_itS ?_
    | with_reducible refine k_ends_rt ?_ | with_reducible refine k_ends_nx ?_ | with_reducible refine k_true ?_ | with_reducible refine k_false ?_ | with_reducible refine k_ntrue ?_ | with_reducible refine k_nfalse ?_
    | with_reducible refine k_addI ?_ | with_reducible refine k_subI ?_ | with_reducible refine k_intI ?_ | with_reducible refine k_ltI ?_ | with_reducible refine k_gtI ?_ | with_reducible refine k_leI ?_ | with_reducible refine k_geI ?_ | with_reducible refine k_eqI ?_ | with_reducible refine k_neI ?_ | with_reducible refine k_eqS ?_ | with_reducible refine k_neS ?_ | with_reducible refine k_negI ?_ | with_reducible refine k_notB ?_ | with_reducible refine k_maxI ?_ | with_reducible refine k_minI ?_ | with_reducible refine k_lenS ?_
    | ((with_reducible refine k_mulI ?e ?_); (case e => omega)) | ((with_reducible refine k_divI ?e ?e2 ?_); (case e => omega); (case e2 => omega)) | ((with_reducible refine k_modI ?e ?_); (case e => omega)) | ((with_reducible refine k_powI ?e ?_); (case e => decide))
    | ((with_reducible refine k_lst ?e ?_); (case e => first | decide | (simp; done) | (simp; omega))) | ((with_reducible refine k_tupD ?e ?_); (case e => first | decide | (simp; done)))
    | ((with_reducible refine' k_lenL ?e ?_); (case e => assumption)) | ((with_reducible refine' k_ixL ?e ?e2 ?_); (case e => assumption); (case e2 => first | assumption | rfl)) | ((with_reducible refine' k_ixT ?e2 ?_); (case e2 => first | assumption | rfl)) | ((with_reducible refine' k_itR ?e ?_); (case e => assumption)))
  try refine k_itR ep ?_
  refine st_lcL (fun _ => true) (fun h y v => v = .bl true) ep (by simp [svs]; omega) (fun _ _ _ _ r _ => r) ?_ ?_
  · intro y g hy xt lt
    simp only [svs, List.mem_map] at hy
    obtain ⟨x, hx, rfl⟩ := hy
    refine ⟨_, rfl, k_yes ⟨rfl, Ext.refl, fun _ => ?_⟩⟩
    repeat (first
      | with_reducible refine k_seq ?_ | ((with_reducible refine k_then_nx ?_); try dsimp only [put]) | with_reducible refine k_e2 ?_ | ((with_reducible refine' k_var ?e ?_); (case e => rfl)) | with_reducible refine k_const ?_
      | with_reducible refine k_set ?_ | with_reducible refine k_if ?_ | with_reducible refine k_ret ?_ | with_reducible refine k_eL ?_ | with_reducible refine k_aCons ?_ | with_reducible refine k_aNil ?_ | with_reducible refine k_bT ?_ | with_reducible refine k_onB ?_
      | with_reducible refine k_call1 ?_ | with_reducible refine k_call2 ?_ | with_reducible refine k_call3 ?_ | with_reducible refine k_expr ?_ | with_reducible refine k_for ?_ | with_reducible refine k_meth ?_ | with_reducible refine k_sub ?_ | with_reducible refine k_par ?_ | with_reducible refine k_tup ?_
      | with_reducible refine k_iAny ?_ | with_reducible refine k_iRng1 ?_ | with_reducible refine k_iRng2 ?_ | with_reducible refine k_iEnm ?_ | with_reducible refine k_then_rt ?_ | with_reducible refine k_then_bk ?_ | with_reducible refine k_then_ct ?_ | with_reducible refine k_skip ?_ | with_reducible refine k_break ?_ | with_reducible refine k_cont ?_ | with_reducible refine k_retN ?_
      | with_reducible refine k_e1 ?_ | with_reducible refine k_not ?_ | with_reducible refine k_and ?_ | with_reducible refine k_or ?_ | with_reducible refine k_ifE ?_ | with_reducible refine k_chain ?_ | with_reducible refine k_slice ?_ | with_reducible refine k_oN ?_ | with_reducible refine k_oS ?_ | with_reducible refine k_lc ?_
      | with_reducible refine k_bAnd ?_ | with_reducible refine k_bOr ?_ | with_reducible refine k_bNot ?_ | with_reducible refine k_yes ?_ | with_reducible refine k_onI ?_ | with_reducible refine k_onR ?_ | with_reducible refine k_onL1 ?_ | with_reducible refine k_onL2 ?_ | with_reducible refine k_itT ?_ | with_reducible refine k_itS ?_
      | with_reducible refine k_ends_rt ?_ | with_reducible refine k_ends_nx ?_ | with_reducible refine k_true ?_ | with_reducible refine k_false ?_ | with_reducible refine k_ntrue ?_ | with_reducible refine k_nfalse ?_
      | with_reducible refine k_addI ?_ | with_reducible refine k_subI ?_ | with_reducible refine k_intI ?_ | with_reducible refine k_ltI ?_ | with_reducible refine k_gtI ?_ | with_reducible refine k_leI ?_ | with_reducible refine k_geI ?_ | with_reducible refine k_eqI ?_ | with_reducible refine k_neI ?_ | with_reducible refine k_eqS ?_ | with_reducible refine k_neS ?_ | with_reducible refine k_negI ?_ | with_reducible refine k_notB ?_ | with_reducible refine k_maxI ?_ | with_reducible refine k_minI ?_ | with_reducible refine k_lenS ?_
      | ((with_reducible refine k_mulI ?e ?_); (case e => omega)) | ((with_reducible refine k_divI ?e ?e2 ?_); (case e => omega); (case e2 => omega)) | ((with_reducible refine k_modI ?e ?_); (case e => omega)) | ((with_reducible refine k_powI ?e ?_); (case e => decide))
      | ((with_reducible refine k_lst ?e ?_); (case e => first | decide | (simp; done) | (simp; omega))) | ((with_reducible refine k_tupD ?e ?_); (case e => first | decide | (simp; done)))
      | ((with_reducible refine' k_lenL ?e ?_); (case e => assumption)) | ((with_reducible refine' k_ixL ?e ?e2 ?_); (case e => assumption); (case e2 => first | assumption | rfl)) | ((with_reducible refine' k_ixT ?e2 ?_); (case e2 => first | assumption | rfl)) | ((with_reducible refine' k_itR ?e ?_); (case e => assumption)))
    exact (is_name_sat (ok x hx)).then fun v g' q => q
  · intro g vs xt lt e al
    repeat (first
      | with_reducible refine k_seq ?_ | ((with_reducible refine k_then_nx ?_); try dsimp only [put]) | with_reducible refine k_e2 ?_ | ((with_reducible refine' k_var ?e ?_); (case e => rfl)) | with_reducible refine k_const ?_
      | with_reducible refine k_set ?_ | with_reducible refine k_if ?_ | with_reducible refine k_ret ?_ | with_reducible refine k_eL ?_ | with_reducible refine k_aCons ?_ | with_reducible refine k_aNil ?_ | with_reducible refine k_bT ?_ | with_reducible refine k_onB ?_
      | with_reducible refine k_call1 ?_ | with_reducible refine k_call2 ?_ | with_reducible refine k_call3 ?_ | with_reducible refine k_expr ?_ | with_reducible refine k_for ?_ | with_reducible refine k_meth ?_ | with_reducible refine k_sub ?_ | with_reducible refine k_par ?_ | with_reducible refine k_tup ?_
      | with_reducible refine k_iAny ?_ | with_reducible refine k_iRng1 ?_ | with_reducible refine k_iRng2 ?_ | with_reducible refine k_iEnm ?_ | with_reducible refine k_then_rt ?_ | with_reducible refine k_then_bk ?_ | with_reducible refine k_then_ct ?_ | with_reducible refine k_skip ?_ | with_reducible refine k_break ?_ | with_reducible refine k_cont ?_ | with_reducible refine k_retN ?_
      | with_reducible refine k_e1 ?_ | with_reducible refine k_not ?_ | with_reducible refine k_and ?_ | with_reducible refine k_or ?_ | with_reducible refine k_ifE ?_ | with_reducible refine k_chain ?_ | with_reducible refine k_slice ?_ | with_reducible refine k_oN ?_ | with_reducible refine k_oS ?_ | with_reducible refine k_lc ?_
      | with_reducible refine k_bAnd ?_ | with_reducible refine k_bOr ?_ | with_reducible refine k_bNot ?_ | with_reducible refine k_yes ?_ | with_reducible refine k_onI ?_ | with_reducible refine k_onR ?_ | with_reducible refine k_onL1 ?_ | with_reducible refine k_onL2 ?_ | with_reducible refine k_itT ?_ | with_reducible refine k_itS ?_
      | with_reducible refine k_ends_rt ?_ | with_reducible refine k_ends_nx ?_ | with_reducible refine k_true ?_ | with_reducible refine k_false ?_ | with_reducible refine k_ntrue ?_ | with_reducible refine k_nfalse ?_
      | with_reducible refine k_addI ?_ | with_reducible refine k_subI ?_ | with_reducible refine k_intI ?_ | with_reducible refine k_ltI ?_ | with_reducible refine k_gtI ?_ | with_reducible refine k_leI ?_ | with_reducible refine k_geI ?_ | with_reducible refine k_eqI ?_ | with_reducible refine k_neI ?_ | with_reducible refine k_eqS ?_ | with_reducible refine k_neS ?_ | with_reducible refine k_negI ?_ | with_reducible refine k_notB ?_ | with_reducible refine k_maxI ?_ | with_reducible refine k_minI ?_ | with_reducible refine k_lenS ?_
      | ((with_reducible refine k_mulI ?e ?_); (case e => omega)) | ((with_reducible refine k_divI ?e ?e2 ?_); (case e => omega); (case e2 => omega)) | ((with_reducible refine k_modI ?e ?_); (case e => omega)) | ((with_reducible refine k_powI ?e ?_); (case e => decide))
      | ((with_reducible refine k_lst ?e ?_); (case e => first | decide | (simp; done) | (simp; omega))) | ((with_reducible refine k_tupD ?e ?_); (case e => first | decide | (simp; done)))
      | ((with_reducible refine' k_lenL ?e ?_); (case e => assumption)) | ((with_reducible refine' k_ixL ?e ?e2 ?_); (case e => assumption); (case e2 => first | assumption | rfl)) | ((with_reducible refine' k_ixT ?e2 ?_); (case e2 => first | assumption | rfl)) | ((with_reducible refine' k_itR ?e ?_); (case e => assumption)))
    refine k_allT e ?_ ?_
    · intro v hv
      have := al.fn (f := fun _ => Pv.bl true)
      rw [this] at hv
      simp at hv
      exact hv.2.symm
    · have ep' := ep.ext xt
      repeat (first
        | with_reducible refine k_seq ?_ | ((with_reducible refine k_then_nx ?_); try dsimp only [put]) | with_reducible refine k_e2 ?_ | ((with_reducible refine' k_var ?e ?_); (case e => rfl)) | with_reducible refine k_const ?_
        | with_reducible refine k_set ?_ | with_reducible refine k_if ?_ | with_reducible refine k_ret ?_ | with_reducible refine k_eL ?_ | with_reducible refine k_aCons ?_ | with_reducible refine k_aNil ?_ | with_reducible refine k_bT ?_ | with_reducible refine k_onB ?_
        | with_reducible refine k_call1 ?_ | with_reducible refine k_call2 ?_ | with_reducible refine k_call3 ?_ | with_reducible refine k_expr ?_ | with_reducible refine k_for ?_ | with_reducible refine k_meth ?_ | with_reducible refine k_sub ?_ | with_reducible refine k_par ?_ | with_reducible refine k_tup ?_
        | with_reducible refine k_iAny ?_ | with_reducible refine k_iRng1 ?_ | with_reducible refine k_iRng2 ?_ | with_reducible refine k_iEnm ?_ | with_reducible refine k_then_rt ?_ | with_reducible refine k_then_bk ?_ | with_reducible refine k_then_ct ?_ | with_reducible refine k_skip ?_ | with_reducible refine k_break ?_ | with_reducible refine k_cont ?_ | with_reducible refine k_retN ?_
        | with_reducible refine k_e1 ?_ | with_reducible refine k_not ?_ | with_reducible refine k_and ?_ | with_reducible refine k_or ?_ | with_reducible refine k_ifE ?_ | with_reducible refine k_chain ?_ | with_reducible refine k_slice ?_ | with_reducible refine k_oN ?_ | with_reducible refine k_oS ?_ | with_reducible refine k_lc ?_
        | with_reducible refine k_bAnd ?_ | with_reducible refine k_bOr ?_ | with_reducible refine k_bNot ?_ | with_reducible refine k_yes ?_ | with_reducible refine k_onI ?_ | with_reducible refine k_onR ?_ | with_reducible refine k_onL1 ?_ | with_reducible refine k_onL2 ?_ | with_reducible refine k_itT ?_ | with_reducible refine k_itS ?_
        | with_reducible refine k_ends_rt ?_ | with_reducible refine k_ends_nx ?_ | with_reducible refine k_true ?_ | with_reducible refine k_false ?_ | with_reducible refine k_ntrue ?_ | with_reducible refine k_nfalse ?_
        | with_reducible refine k_addI ?_ | with_reducible refine k_subI ?_ | with_reducible refine k_intI ?_ | with_reducible refine k_ltI ?_ | with_reducible refine k_gtI ?_ | with_reducible refine k_leI ?_ | with_reducible refine k_geI ?_ | with_reducible refine k_eqI ?_ | with_reducible refine k_neI ?_ | with_reducible refine k_eqS ?_ | with_reducible refine k_neS ?_ | with_reducible refine k_negI ?_ | with_reducible refine k_notB ?_ | with_reducible refine k_maxI ?_ | with_reducible refine k_minI ?_ | with_reducible refine k_lenS ?_
        | ((with_reducible refine k_mulI ?e ?_); (case e => omega)) | ((with_reducible refine k_divI ?e ?e2 ?_); (case e => omega); (case e2 => omega)) | ((with_reducible refine k_modI ?e ?_); (case e => omega)) | ((with_reducible refine k_powI ?e ?_); (case e => decide))
        | ((with_reducible refine k_lst ?e ?_); (case e => first | decide | (simp; done) | (simp; omega))) | ((with_reducible refine k_tupD ?e ?_); (case e => first | decide | (simp; done)))
        | ((with_reducible refine' k_lenL ?e ?_); (case e => assumption)) | ((with_reducible refine' k_ixL ?e ?e2 ?_); (case e => assumption); (case e2 => first | assumption | rfl)) | ((with_reducible refine' k_ixT ?e2 ?_); (case e2 => first | assumption | rfl)) | ((with_reducible refine' k_itR ?e ?_); (case e => assumption)))
      try refine k_lenL ep' ?_
      repeat (first
        | with_reducible refine k_seq ?_ | ((with_reducible refine k_then_nx ?_); try dsimp only [put]) | with_reducible refine k_e2 ?_ | ((with_reducible refine' k_var ?e ?_); (case e => rfl)) | with_reducible refine k_const ?_
        | with_reducible refine k_set ?_ | with_reducible refine k_if ?_ | with_reducible refine k_ret ?_ | with_reducible refine k_eL ?_ | with_reducible refine k_aCons ?_ | with_reducible refine k_aNil ?_ | with_reducible refine k_bT ?_ | with_reducible refine k_onB ?_
        | with_reducible refine k_call1 ?_ | with_reducible refine k_call2 ?_ | with_reducible refine k_call3 ?_ | with_reducible refine k_expr ?_ | with_reducible refine k_for ?_ | with_reducible refine k_meth ?_ | with_reducible refine k_sub ?_ | with_reducible refine k_par ?_ | with_reducible refine k_tup ?_
        | with_reducible refine k_iAny ?_ | with_reducible refine k_iRng1 ?_ | with_reducible refine k_iRng2 ?_ | with_reducible refine k_iEnm ?_ | with_reducible refine k_then_rt ?_ | with_reducible refine k_then_bk ?_ | with_reducible refine k_then_ct ?_ | with_reducible refine k_skip ?_ | with_reducible refine k_break ?_ | with_reducible refine k_cont ?_ | with_reducible refine k_retN ?_
        | with_reducible refine k_e1 ?_ | with_reducible refine k_not ?_ | with_reducible refine k_and ?_ | with_reducible refine k_or ?_ | with_reducible refine k_ifE ?_ | with_reducible refine k_chain ?_ | with_reducible refine k_slice ?_ | with_reducible refine k_oN ?_ | with_reducible refine k_oS ?_ | with_reducible refine k_lc ?_
        | with_reducible refine k_bAnd ?_ | with_reducible refine k_bOr ?_ | with_reducible refine k_bNot ?_ | with_reducible refine k_yes ?_ | with_reducible refine k_onI ?_ | with_reducible refine k_onR ?_ | with_reducible refine k_onL1 ?_ | with_reducible refine k_onL2 ?_ | with_reducible refine k_itT ?_ | with_reducible refine k_itS ?_
        | with_reducible refine k_ends_rt ?_ | with_reducible refine k_ends_nx ?_ | with_reducible refine k_true ?_ | with_reducible refine k_false ?_ | with_reducible refine k_ntrue ?_ | with_reducible refine k_nfalse ?_
        | with_reducible refine k_addI ?_ | with_reducible refine k_subI ?_ | with_reducible refine k_intI ?_ | with_reducible refine k_ltI ?_ | with_reducible refine k_gtI ?_ | with_reducible refine k_leI ?_ | with_reducible refine k_geI ?_ | with_reducible refine k_eqI ?_ | with_reducible refine k_neI ?_ | with_reducible refine k_eqS ?_ | with_reducible refine k_neS ?_ | with_reducible refine k_negI ?_ | with_reducible refine k_notB ?_ | with_reducible refine k_maxI ?_ | with_reducible refine k_minI ?_ | with_reducible refine k_lenS ?_
        | ((with_reducible refine k_mulI ?e ?_); (case e => omega)) | ((with_reducible refine k_divI ?e ?e2 ?_); (case e => omega); (case e2 => omega)) | ((with_reducible refine k_modI ?e ?_); (case e => omega)) | ((with_reducible refine k_powI ?e ?_); (case e => decide))
        | ((with_reducible refine k_lst ?e ?_); (case e => first | decide | (simp; done) | (simp; omega))) | ((with_reducible refine k_tupD ?e ?_); (case e => first | decide | (simp; done)))
        | ((with_reducible refine' k_lenL ?e ?_); (case e => assumption)) | ((with_reducible refine' k_ixL ?e ?e2 ?_); (case e => assumption); (case e2 => first | assumption | rfl)) | ((with_reducible refine' k_ixT ?e2 ?_); (case e2 => first | assumption | rfl)) | ((with_reducible refine' k_itR ?e ?_); (case e => assumption)))
      refine k_decF (by simp [svs]; omega) ?_
      repeat (first
        | with_reducible refine k_seq ?_ | ((with_reducible refine k_then_nx ?_); try dsimp only [put]) | with_reducible refine k_e2 ?_ | ((with_reducible refine' k_var ?e ?_); (case e => rfl)) | with_reducible refine k_const ?_
        | with_reducible refine k_set ?_ | with_reducible refine k_if ?_ | with_reducible refine k_ret ?_ | with_reducible refine k_eL ?_ | with_reducible refine k_aCons ?_ | with_reducible refine k_aNil ?_ | with_reducible refine k_bT ?_ | with_reducible refine k_onB ?_
        | with_reducible refine k_call1 ?_ | with_reducible refine k_call2 ?_ | with_reducible refine k_call3 ?_ | with_reducible refine k_expr ?_ | with_reducible refine k_for ?_ | with_reducible refine k_meth ?_ | with_reducible refine k_sub ?_ | with_reducible refine k_par ?_ | with_reducible refine k_tup ?_
        | with_reducible refine k_iAny ?_ | with_reducible refine k_iRng1 ?_ | with_reducible refine k_iRng2 ?_ | with_reducible refine k_iEnm ?_ | with_reducible refine k_then_rt ?_ | with_reducible refine k_then_bk ?_ | with_reducible refine k_then_ct ?_ | with_reducible refine k_skip ?_ | with_reducible refine k_break ?_ | with_reducible refine k_cont ?_ | with_reducible refine k_retN ?_
        | with_reducible refine k_e1 ?_ | with_reducible refine k_not ?_ | with_reducible refine k_and ?_ | with_reducible refine k_or ?_ | with_reducible refine k_ifE ?_ | with_reducible refine k_chain ?_ | with_reducible refine k_slice ?_ | with_reducible refine k_oN ?_ | with_reducible refine k_oS ?_ | with_reducible refine k_lc ?_
        | with_reducible refine k_bAnd ?_ | with_reducible refine k_bOr ?_ | with_reducible refine k_bNot ?_ | with_reducible refine k_yes ?_ | with_reducible refine k_onI ?_ | with_reducible refine k_onR ?_ | with_reducible refine k_onL1 ?_ | with_reducible refine k_onL2 ?_ | with_reducible refine k_itT ?_ | with_reducible refine k_itS ?_
        | with_reducible refine k_ends_rt ?_ | with_reducible refine k_ends_nx ?_ | with_reducible refine k_true ?_ | with_reducible refine k_false ?_ | with_reducible refine k_ntrue ?_ | with_reducible refine k_nfalse ?_
        | with_reducible refine k_addI ?_ | with_reducible refine k_subI ?_ | with_reducible refine k_intI ?_ | with_reducible refine k_ltI ?_ | with_reducible refine k_gtI ?_ | with_reducible refine k_leI ?_ | with_reducible refine k_geI ?_ | with_reducible refine k_eqI ?_ | with_reducible refine k_neI ?_ | with_reducible refine k_eqS ?_ | with_reducible refine k_neS ?_ | with_reducible refine k_negI ?_ | with_reducible refine k_notB ?_ | with_reducible refine k_maxI ?_ | with_reducible refine k_minI ?_ | with_reducible refine k_lenS ?_
        | ((with_reducible refine k_mulI ?e ?_); (case e => omega)) | ((with_reducible refine k_divI ?e ?e2 ?_); (case e => omega); (case e2 => omega)) | ((with_reducible refine k_modI ?e ?_); (case e => omega)) | ((with_reducible refine k_powI ?e ?_); (case e => decide))
        | ((with_reducible refine k_lst ?e ?_); (case e => first | decide | (simp; done) | (simp; omega))) | ((with_reducible refine k_tupD ?e ?_); (case e => first | decide | (simp; done)))
        | ((with_reducible refine' k_lenL ?e ?_); (case e => assumption)) | ((with_reducible refine' k_ixL ?e ?e2 ?_); (case e => assumption); (case e2 => first | assumption | rfl)) | ((with_reducible refine' k_ixT ?e2 ?_); (case e2 => first | assumption | rfl)) | ((with_reducible refine' k_itR ?e ?_); (case e => assumption)))
      refine k_lenSet ep' nd (by omega) ?_
      repeat (first
        | with_reducible refine k_seq ?_ | ((with_reducible refine k_then_nx ?_); try dsimp only [put]) | with_reducible refine k_e2 ?_ | ((with_reducible refine' k_var ?e ?_); (case e => rfl)) | with_reducible refine k_const ?_
        | with_reducible refine k_set ?_ | with_reducible refine k_if ?_ | with_reducible refine k_ret ?_ | with_reducible refine k_eL ?_ | with_reducible refine k_aCons ?_ | with_reducible refine k_aNil ?_ | with_reducible refine k_bT ?_ | with_reducible refine k_onB ?_
        | with_reducible refine k_call1 ?_ | with_reducible refine k_call2 ?_ | with_reducible refine k_call3 ?_ | with_reducible refine k_expr ?_ | with_reducible refine k_for ?_ | with_reducible refine k_meth ?_ | with_reducible refine k_sub ?_ | with_reducible refine k_par ?_ | with_reducible refine k_tup ?_
        | with_reducible refine k_iAny ?_ | with_reducible refine k_iRng1 ?_ | with_reducible refine k_iRng2 ?_ | with_reducible refine k_iEnm ?_ | with_reducible refine k_then_rt ?_ | with_reducible refine k_then_bk ?_ | with_reducible refine k_then_ct ?_ | with_reducible refine k_skip ?_ | with_reducible refine k_break ?_ | with_reducible refine k_cont ?_ | with_reducible refine k_retN ?_
        | with_reducible refine k_e1 ?_ | with_reducible refine k_not ?_ | with_reducible refine k_and ?_ | with_reducible refine k_or ?_ | with_reducible refine k_ifE ?_ | with_reducible refine k_chain ?_ | with_reducible refine k_slice ?_ | with_reducible refine k_oN ?_ | with_reducible refine k_oS ?_ | with_reducible refine k_lc ?_
        | with_reducible refine k_bAnd ?_ | with_reducible refine k_bOr ?_ | with_reducible refine k_bNot ?_ | with_reducible refine k_yes ?_ | with_reducible refine k_onI ?_ | with_reducible refine k_onR ?_ | with_reducible refine k_onL1 ?_ | with_reducible refine k_onL2 ?_ | with_reducible refine k_itT ?_ | with_reducible refine k_itS ?_
        | with_reducible refine k_ends_rt ?_ | with_reducible refine k_ends_nx ?_ | with_reducible refine k_true ?_ | with_reducible refine k_false ?_ | with_reducible refine k_ntrue ?_ | with_reducible refine k_nfalse ?_
        | with_reducible refine k_addI ?_ | with_reducible refine k_subI ?_ | with_reducible refine k_intI ?_ | with_reducible refine k_ltI ?_ | with_reducible refine k_gtI ?_ | with_reducible refine k_leI ?_ | with_reducible refine k_geI ?_ | with_reducible refine k_eqI ?_ | with_reducible refine k_neI ?_ | with_reducible refine k_eqS ?_ | with_reducible refine k_neS ?_ | with_reducible refine k_negI ?_ | with_reducible refine k_notB ?_ | with_reducible refine k_maxI ?_ | with_reducible refine k_minI ?_ | with_reducible refine k_lenS ?_
        | ((with_reducible refine k_mulI ?e ?_); (case e => omega)) | ((with_reducible refine k_divI ?e ?e2 ?_); (case e => omega); (case e2 => omega)) | ((with_reducible refine k_modI ?e ?_); (case e => omega)) | ((with_reducible refine k_powI ?e ?_); (case e => decide))
        | ((with_reducible refine k_lst ?e ?_); (case e => first | decide | (simp; done) | (simp; omega))) | ((with_reducible refine k_tupD ?e ?_); (case e => first | decide | (simp; done)))
        | ((with_reducible refine' k_lenL ?e ?_); (case e => assumption)) | ((with_reducible refine' k_ixL ?e ?e2 ?_); (case e => assumption); (case e2 => first | assumption | rfl)) | ((with_reducible refine' k_ixT ?e2 ?_); (case e2 => first | assumption | rfl)) | ((with_reducible refine' k_itR ?e ?_); (case e => assumption)))
      try refine k_lenL ep' ?_
      repeat (first
        | with_reducible refine k_seq ?_ | ((with_reducible refine k_then_nx ?_); try dsimp only [put]) | with_reducible refine k_e2 ?_ | ((with_reducible refine' k_var ?e ?_); (case e => rfl)) | with_reducible refine k_const ?_
        | with_reducible refine k_set ?_ | with_reducible refine k_if ?_ | with_reducible refine k_ret ?_ | with_reducible refine k_eL ?_ | with_reducible refine k_aCons ?_ | with_reducible refine k_aNil ?_ | with_reducible refine k_bT ?_ | with_reducible refine k_onB ?_
        | with_reducible refine k_call1 ?_ | with_reducible refine k_call2 ?_ | with_reducible refine k_call3 ?_ | with_reducible refine k_expr ?_ | with_reducible refine k_for ?_ | with_reducible refine k_meth ?_ | with_reducible refine k_sub ?_ | with_reducible refine k_par ?_ | with_reducible refine k_tup ?_
        | with_reducible refine k_iAny ?_ | with_reducible refine k_iRng1 ?_ | with_reducible refine k_iRng2 ?_ | with_reducible refine k_iEnm ?_ | with_reducible refine k_then_rt ?_ | with_reducible refine k_then_bk ?_ | with_reducible refine k_then_ct ?_ | with_reducible refine k_skip ?_ | with_reducible refine k_break ?_ | with_reducible refine k_cont ?_ | with_reducible refine k_retN ?_
        | with_reducible refine k_e1 ?_ | with_reducible refine k_not ?_ | with_reducible refine k_and ?_ | with_reducible refine k_or ?_ | with_reducible refine k_ifE ?_ | with_reducible refine k_chain ?_ | with_reducible refine k_slice ?_ | with_reducible refine k_oN ?_ | with_reducible refine k_oS ?_ | with_reducible refine k_lc ?_
        | with_reducible refine k_bAnd ?_ | with_reducible refine k_bOr ?_ | with_reducible refine k_bNot ?_ | with_reducible refine k_yes ?_ | with_reducible refine k_onI ?_ | with_reducible refine k_onR ?_ | with_reducible refine k_onL1 ?_ | with_reducible refine k_onL2 ?_ | with_reducible refine k_itT ?_ | with_reducible refine k_itS ?_
        | with_reducible refine k_ends_rt ?_ | with_reducible refine k_ends_nx ?_ | with_reducible refine k_true ?_ | with_reducible refine k_false ?_ | with_reducible refine k_ntrue ?_ | with_reducible refine k_nfalse ?_
        | with_reducible refine k_addI ?_ | with_reducible refine k_subI ?_ | with_reducible refine k_intI ?_ | with_reducible refine k_ltI ?_ | with_reducible refine k_gtI ?_ | with_reducible refine k_leI ?_ | with_reducible refine k_geI ?_ | with_reducible refine k_eqI ?_ | with_reducible refine k_neI ?_ | with_reducible refine k_eqS ?_ | with_reducible refine k_neS ?_ | with_reducible refine k_negI ?_ | with_reducible refine k_notB ?_ | with_reducible refine k_maxI ?_ | with_reducible refine k_minI ?_ | with_reducible refine k_lenS ?_
        | ((with_reducible refine k_mulI ?e ?_); (case e => omega)) | ((with_reducible refine k_divI ?e ?e2 ?_); (case e => omega); (case e2 => omega)) | ((with_reducible refine k_modI ?e ?_); (case e => omega)) | ((with_reducible refine k_powI ?e ?_); (case e => decide))
        | ((with_reducible refine k_lst ?e ?_); (case e => first | decide | (simp; done) | (simp; omega))) | ((with_reducible refine k_tupD ?e ?_); (case e => first | decide | (simp; done)))
        | ((with_reducible refine' k_lenL ?e ?_); (case e => assumption)) | ((with_reducible refine' k_ixL ?e ?e2 ?_); (case e => assumption); (case e2 => first | assumption | rfl)) | ((with_reducible refine' k_ixT ?e2 ?_); (case e2 => first | assumption | rfl)) | ((with_reducible refine' k_itR ?e ?_); (case e => assumption)))
      refine k_decF (by simp [svs]) ?_
      repeat (first
        | with_reducible refine k_seq ?_ | ((with_reducible refine k_then_nx ?_); try dsimp only [put]) | with_reducible refine k_e2 ?_ | ((with_reducible refine' k_var ?e ?_); (case e => rfl)) | with_reducible refine k_const ?_
        | with_reducible refine k_set ?_ | with_reducible refine k_if ?_ | with_reducible refine k_ret ?_ | with_reducible refine k_eL ?_ | with_reducible refine k_aCons ?_ | with_reducible refine k_aNil ?_ | with_reducible refine k_bT ?_ | with_reducible refine k_onB ?_
        | with_reducible refine k_call1 ?_ | with_reducible refine k_call2 ?_ | with_reducible refine k_call3 ?_ | with_reducible refine k_expr ?_ | with_reducible refine k_for ?_ | with_reducible refine k_meth ?_ | with_reducible refine k_sub ?_ | with_reducible refine k_par ?_ | with_reducible refine k_tup ?_
        | with_reducible refine k_iAny ?_ | with_reducible refine k_iRng1 ?_ | with_reducible refine k_iRng2 ?_ | with_reducible refine k_iEnm ?_ | with_reducible refine k_then_rt ?_ | with_reducible refine k_then_bk ?_ | with_reducible refine k_then_ct ?_ | with_reducible refine k_skip ?_ | with_reducible refine k_break ?_ | with_reducible refine k_cont ?_ | with_reducible refine k_retN ?_
        | with_reducible refine k_e1 ?_ | with_reducible refine k_not ?_ | with_reducible refine k_and ?_ | with_reducible refine k_or ?_ | with_reducible refine k_ifE ?_ | with_reducible refine k_chain ?_ | with_reducible refine k_slice ?_ | with_reducible refine k_oN ?_ | with_reducible refine k_oS ?_ | with_reducible refine k_lc ?_
        | with_reducible refine k_bAnd ?_ | with_reducible refine k_bOr ?_ | with_reducible refine k_bNot ?_ | with_reducible refine k_yes ?_ | with_reducible refine k_onI ?_ | with_reducible refine k_onR ?_ | with_reducible refine k_onL1 ?_ | with_reducible refine k_onL2 ?_ | with_reducible refine k_itT ?_ | with_reducible refine k_itS ?_
        | with_reducible refine k_ends_rt ?_ | with_reducible refine k_ends_nx ?_ | with_reducible refine k_true ?_ | with_reducible refine k_false ?_ | with_reducible refine k_ntrue ?_ | with_reducible refine k_nfalse ?_
        | with_reducible refine k_addI ?_ | with_reducible refine k_subI ?_ | with_reducible refine k_intI ?_ | with_reducible refine k_ltI ?_ | with_reducible refine k_gtI ?_ | with_reducible refine k_leI ?_ | with_reducible refine k_geI ?_ | with_reducible refine k_eqI ?_ | with_reducible refine k_neI ?_ | with_reducible refine k_eqS ?_ | with_reducible refine k_neS ?_ | with_reducible refine k_negI ?_ | with_reducible refine k_notB ?_ | with_reducible refine k_maxI ?_ | with_reducible refine k_minI ?_ | with_reducible refine k_lenS ?_
        | ((with_reducible refine k_mulI ?e ?_); (case e => omega)) | ((with_reducible refine k_divI ?e ?e2 ?_); (case e => omega); (case e2 => omega)) | ((with_reducible refine k_modI ?e ?_); (case e => omega)) | ((with_reducible refine k_powI ?e ?_); (case e => decide))
        | ((with_reducible refine k_lst ?e ?_); (case e => first | decide | (simp; done) | (simp; omega))) | ((with_reducible refine k_tupD ?e ?_); (case e => first | decide | (simp; done)))
        | ((with_reducible refine' k_lenL ?e ?_); (case e => assumption)) | ((with_reducible refine' k_ixL ?e ?e2 ?_); (case e => assumption); (case e2 => first | assumption | rfl)) | ((with_reducible refine' k_ixT ?e2 ?_); (case e2 => first | assumption | rfl)) | ((with_reducible refine' k_itR ?e ?_); (case e => assumption)))
      refine k_isNotNon (by intro z; cases z) ?_
      repeat (first
        | with_reducible refine k_seq ?_ | ((with_reducible refine k_then_nx ?_); try dsimp only [put]) | with_reducible refine k_e2 ?_ | ((with_reducible refine' k_var ?e ?_); (case e => rfl)) | with_reducible refine k_const ?_
        | with_reducible refine k_set ?_ | with_reducible refine k_if ?_ | with_reducible refine k_ret ?_ | with_reducible refine k_eL ?_ | with_reducible refine k_aCons ?_ | with_reducible refine k_aNil ?_ | with_reducible refine k_bT ?_ | with_reducible refine k_onB ?_
        | with_reducible refine k_call1 ?_ | with_reducible refine k_call2 ?_ | with_reducible refine k_call3 ?_ | with_reducible refine k_expr ?_ | with_reducible refine k_for ?_ | with_reducible refine k_meth ?_ | with_reducible refine k_sub ?_ | with_reducible refine k_par ?_ | with_reducible refine k_tup ?_
        | with_reducible refine k_iAny ?_ | with_reducible refine k_iRng1 ?_ | with_reducible refine k_iRng2 ?_ | with_reducible refine k_iEnm ?_ | with_reducible refine k_then_rt ?_ | with_reducible refine k_then_bk ?_ | with_reducible refine k_then_ct ?_ | with_reducible refine k_skip ?_ | with_reducible refine k_break ?_ | with_reducible refine k_cont ?_ | with_reducible refine k_retN ?_
        | with_reducible refine k_e1 ?_ | with_reducible refine k_not ?_ | with_reducible refine k_and ?_ | with_reducible refine k_or ?_ | with_reducible refine k_ifE ?_ | with_reducible refine k_chain ?_ | with_reducible refine k_slice ?_ | with_reducible refine k_oN ?_ | with_reducible refine k_oS ?_ | with_reducible refine k_lc ?_
        | with_reducible refine k_bAnd ?_ | with_reducible refine k_bOr ?_ | with_reducible refine k_bNot ?_ | with_reducible refine k_yes ?_ | with_reducible refine k_onI ?_ | with_reducible refine k_onR ?_ | with_reducible refine k_onL1 ?_ | with_reducible refine k_onL2 ?_ | with_reducible refine k_itT ?_ | with_reducible refine k_itS ?_
        | with_reducible refine k_ends_rt ?_ | with_reducible refine k_ends_nx ?_ | with_reducible refine k_true ?_ | with_reducible refine k_false ?_ | with_reducible refine k_ntrue ?_ | with_reducible refine k_nfalse ?_
        | with_reducible refine k_addI ?_ | with_reducible refine k_subI ?_ | with_reducible refine k_intI ?_ | with_reducible refine k_ltI ?_ | with_reducible refine k_gtI ?_ | with_reducible refine k_leI ?_ | with_reducible refine k_geI ?_ | with_reducible refine k_eqI ?_ | with_reducible refine k_neI ?_ | with_reducible refine k_eqS ?_ | with_reducible refine k_neS ?_ | with_reducible refine k_negI ?_ | with_reducible refine k_notB ?_ | with_reducible refine k_maxI ?_ | with_reducible refine k_minI ?_ | with_reducible refine k_lenS ?_
        | ((with_reducible refine k_mulI ?e ?_); (case e => omega)) | ((with_reducible refine k_divI ?e ?e2 ?_); (case e => omega); (case e2 => omega)) | ((with_reducible refine k_modI ?e ?_); (case e => omega)) | ((with_reducible refine k_powI ?e ?_); (case e => decide))
        | ((with_reducible refine k_lst ?e ?_); (case e => first | decide | (simp; done) | (simp; omega))) | ((with_reducible refine k_tupD ?e ?_); (case e => first | decide | (simp; done)))
        | ((with_reducible refine' k_lenL ?e ?_); (case e => assumption)) | ((with_reducible refine' k_ixL ?e ?e2 ?_); (case e => assumption); (case e2 => first | assumption | rfl)) | ((with_reducible refine' k_ixT ?e2 ?_); (case e2 => first | assumption | rfl)) | ((with_reducible refine' k_itR ?e ?_); (case e => assumption)))
      try refine k_lenL ep' ?_
      repeat (first
        | with_reducible refine k_seq ?_ | ((with_reducible refine k_then_nx ?_); try dsimp only [put]) | with_reducible refine k_e2 ?_ | ((with_reducible refine' k_var ?e ?_); (case e => rfl)) | with_reducible refine k_const ?_
        | with_reducible refine k_set ?_ | with_reducible refine k_if ?_ | with_reducible refine k_ret ?_ | with_reducible refine k_eL ?_ | with_reducible refine k_aCons ?_ | with_reducible refine k_aNil ?_ | with_reducible refine k_bT ?_ | with_reducible refine k_onB ?_
        | with_reducible refine k_call1 ?_ | with_reducible refine k_call2 ?_ | with_reducible refine k_call3 ?_ | with_reducible refine k_expr ?_ | with_reducible refine k_for ?_ | with_reducible refine k_meth ?_ | with_reducible refine k_sub ?_ | with_reducible refine k_par ?_ | with_reducible refine k_tup ?_
        | with_reducible refine k_iAny ?_ | with_reducible refine k_iRng1 ?_ | with_reducible refine k_iRng2 ?_ | with_reducible refine k_iEnm ?_ | with_reducible refine k_then_rt ?_ | with_reducible refine k_then_bk ?_ | with_reducible refine k_then_ct ?_ | with_reducible refine k_skip ?_ | with_reducible refine k_break ?_ | with_reducible refine k_cont ?_ | with_reducible refine k_retN ?_
        | with_reducible refine k_e1 ?_ | with_reducible refine k_not ?_ | with_reducible refine k_and ?_ | with_reducible refine k_or ?_ | with_reducible refine k_ifE ?_ | with_reducible refine k_chain ?_ | with_reducible refine k_slice ?_ | with_reducible refine k_oN ?_ | with_reducible refine k_oS ?_ | with_reducible refine k_lc ?_
        | with_reducible refine k_bAnd ?_ | with_reducible refine k_bOr ?_ | with_reducible refine k_bNot ?_ | with_reducible refine k_yes ?_ | with_reducible refine k_onI ?_ | with_reducible refine k_onR ?_ | with_reducible refine k_onL1 ?_ | with_reducible refine k_onL2 ?_ | with_reducible refine k_itT ?_ | with_reducible refine k_itS ?_
        | with_reducible refine k_ends_rt ?_ | with_reducible refine k_ends_nx ?_ | with_reducible refine k_true ?_ | with_reducible refine k_false ?_ | with_reducible refine k_ntrue ?_ | with_reducible refine k_nfalse ?_
        | with_reducible refine k_addI ?_ | with_reducible refine k_subI ?_ | with_reducible refine k_intI ?_ | with_reducible refine k_ltI ?_ | with_reducible refine k_gtI ?_ | with_reducible refine k_leI ?_ | with_reducible refine k_geI ?_ | with_reducible refine k_eqI ?_ | with_reducible refine k_neI ?_ | with_reducible refine k_eqS ?_ | with_reducible refine k_neS ?_ | with_reducible refine k_negI ?_ | with_reducible refine k_notB ?_ | with_reducible refine k_maxI ?_ | with_reducible refine k_minI ?_ | with_reducible refine k_lenS ?_
        | ((with_reducible refine k_mulI ?e ?_); (case e => omega)) | ((with_reducible refine k_divI ?e ?e2 ?_); (case e => omega); (case e2 => omega)) | ((with_reducible refine k_modI ?e ?_); (case e => omega)) | ((with_reducible refine k_powI ?e ?_); (case e => decide))
        | ((with_reducible refine k_lst ?e ?_); (case e => first | decide | (simp; done) | (simp; omega))) | ((with_reducible refine k_tupD ?e ?_); (case e => first | decide | (simp; done)))
        | ((with_reducible refine' k_lenL ?e ?_); (case e => assumption)) | ((with_reducible refine' k_ixL ?e ?e2 ?_); (case e => assumption); (case e2 => first | assumption | rfl)) | ((with_reducible refine' k_ixT ?e2 ?_); (case e2 => first | assumption | rfl)) | ((with_reducible refine' k_itR ?e ?_); (case e => assumption)))
      refine k_decF (by simp [svs]; omega) ?_
      repeat (first
        | with_reducible refine k_seq ?_ | ((with_reducible refine k_then_nx ?_); try dsimp only [put]) | with_reducible refine k_e2 ?_ | ((with_reducible refine' k_var ?e ?_); (case e => rfl)) | with_reducible refine k_const ?_
        | with_reducible refine k_set ?_ | with_reducible refine k_if ?_ | with_reducible refine k_ret ?_ | with_reducible refine k_eL ?_ | with_reducible refine k_aCons ?_ | with_reducible refine k_aNil ?_ | with_reducible refine k_bT ?_ | with_reducible refine k_onB ?_
        | with_reducible refine k_call1 ?_ | with_reducible refine k_call2 ?_ | with_reducible refine k_call3 ?_ | with_reducible refine k_expr ?_ | with_reducible refine k_for ?_ | with_reducible refine k_meth ?_ | with_reducible refine k_sub ?_ | with_reducible refine k_par ?_ | with_reducible refine k_tup ?_
        | with_reducible refine k_iAny ?_ | with_reducible refine k_iRng1 ?_ | with_reducible refine k_iRng2 ?_ | with_reducible refine k_iEnm ?_ | with_reducible refine k_then_rt ?_ | with_reducible refine k_then_bk ?_ | with_reducible refine k_then_ct ?_ | with_reducible refine k_skip ?_ | with_reducible refine k_break ?_ | with_reducible refine k_cont ?_ | with_reducible refine k_retN ?_
        | with_reducible refine k_e1 ?_ | with_reducible refine k_not ?_ | with_reducible refine k_and ?_ | with_reducible refine k_or ?_ | with_reducible refine k_ifE ?_ | with_reducible refine k_chain ?_ | with_reducible refine k_slice ?_ | with_reducible refine k_oN ?_ | with_reducible refine k_oS ?_ | with_reducible refine k_lc ?_
        | with_reducible refine k_bAnd ?_ | with_reducible refine k_bOr ?_ | with_reducible refine k_bNot ?_ | with_reducible refine k_yes ?_ | with_reducible refine k_onI ?_ | with_reducible refine k_onR ?_ | with_reducible refine k_onL1 ?_ | with_reducible refine k_onL2 ?_ | with_reducible refine k_itT ?_ | with_reducible refine k_itS ?_
        | with_reducible refine k_ends_rt ?_ | with_reducible refine k_ends_nx ?_ | with_reducible refine k_true ?_ | with_reducible refine k_false ?_ | with_reducible refine k_ntrue ?_ | with_reducible refine k_nfalse ?_
        | with_reducible refine k_addI ?_ | with_reducible refine k_subI ?_ | with_reducible refine k_intI ?_ | with_reducible refine k_ltI ?_ | with_reducible refine k_gtI ?_ | with_reducible refine k_leI ?_ | with_reducible refine k_geI ?_ | with_reducible refine k_eqI ?_ | with_reducible refine k_neI ?_ | with_reducible refine k_eqS ?_ | with_reducible refine k_neS ?_ | with_reducible refine k_negI ?_ | with_reducible refine k_notB ?_ | with_reducible refine k_maxI ?_ | with_reducible refine k_minI ?_ | with_reducible refine k_lenS ?_
        | ((with_reducible refine k_mulI ?e ?_); (case e => omega)) | ((with_reducible refine k_divI ?e ?e2 ?_); (case e => omega); (case e2 => omega)) | ((with_reducible refine k_modI ?e ?_); (case e => omega)) | ((with_reducible refine k_powI ?e ?_); (case e => decide))
        | ((with_reducible refine k_lst ?e ?_); (case e => first | decide | (simp; done) | (simp; omega))) | ((with_reducible refine k_tupD ?e ?_); (case e => first | decide | (simp; done)))
        | ((with_reducible refine' k_lenL ?e ?_); (case e => assumption)) | ((with_reducible refine' k_ixL ?e ?e2 ?_); (case e => assumption); (case e2 => first | assumption | rfl)) | ((with_reducible refine' k_ixT ?e2 ?_); (case e2 => first | assumption | rfl)) | ((with_reducible refine' k_itR ?e ?_); (case e => assumption)))
      exact ⟨rfl, xt⟩
theorem are_some_sat {h : Hh} {a p : Nat} {xs ys : List Str} (ea : LS h a ys) (ep : LS h p xs) (sub : ∀ y ∈ ys, y ∈ xs) (nd : ys.Nodup) (hl : ys.length ≤ 30) : Sat (d_are_some [.ref a, .ref p] h) (fun v h' => v = .bl true ∧ Ext h h') NoX := by
  unfold d_are_some
  refine st_fn' (σ0 := [some (.ref a), some (.ref p), none]) rfl ?_
  repeat (first
    | with_reducible refine k_seq ?_ | ((with_reducible refine k_then_nx ?_); try dsimp only [put]) | with_reducible refine k_e2 ?_ | ((with_reducible refine' k_var ?e ?_); (case e => rfl)) | with_reducible refine k_const ?_
    | with_reducible refine k_set ?_ | with_reducible refine k_if ?_ | with_reducible refine k_ret ?_ | with_reducible refine k_eL ?_ | with_reducible refine k_aCons ?_ | with_reducible refine k_aNil ?_ | with_reducible refine k_bT ?_ | with_reducible refine k_onB ?_
    | with_reducible refine k_call1 ?_ | with_reducible refine k_call2 ?_ | with_reducible refine k_call3 ?_ | with_reducible refine k_expr ?_ | with_reducible refine k_for ?_ | with_reducible refine k_meth ?_ | with_reducible refine k_sub ?_ | with_reducible refine k_par ?_ | with_reducible refine k_tup ?_
    | with_reducible refine k_iAny ?_ | with_reducible refine k_iRng1 ?_ | with_reducible refine k_iRng2 ?_ | with_reducible refine k_iEnm ?_ | with_reducible refine k_then_rt ?_ | with_reducible refine k_then_bk ?_ | with_reducible refine k_then_ct ?_ | with_reducible refine k_skip ?_ | with_reducible refine k_break ?_ | with_reducible refine k_cont ?_ | with_reducible refine k_retN ?_
    | with_reducible refine k_e1 ?_ | with_reducible refine k_not ?_ | with_reducible refine k_and ?_ | with_reducible refine k_or ?_ | with_reducible refine k_ifE ?_ | with_reducible refine k_chain ?_ | with_reducible refine k_slice ?_ | with_reducible refine k_oN ?_ | with_reducible refine k_oS ?_ | with_reducible refine k_lc ?_
    | with_reducible refine k_bAnd ?_ | with_reducible refine k_bOr ?_ | with_reducible refine k_bNot ?_ | with_reducible refine k_yes ?_ | with_reducible refine k_onI ?_ | with_reducible refine k_onR ?_ | with_reducible refine k_onL1 ?_ | with_reducible refine k_onL2 ?_ | with_reducible refine k_itT ?_ | with_reducible refine k_itS ?_
    | with_reducible refine k_ends_rt ?_ | with_reducible refine k_ends_nx ?_ | with_reducible refine k_true ?_ | with_reducible refine k_false ?_ | with_reducible refine k_ntrue ?_ | with_reducible refine k_nfalse ?_
    | with_reducible refine k_addI ?_ | with_reducible refine k_subI ?_ | with_reducible refine k_intI ?_ | with_reducible refine k_ltI ?_ | with_reducible refine k_gtI ?_ | with_reducible refine k_leI ?_ | with_reducible refine k_geI ?_ | with_reducible refine k_eqI ?_ | with_reducible refine k_neI ?_ | with_reducible refine k_eqS ?_ | with_reducible refine k_neS ?_ | with_reducible refine k_negI ?_ | with_reducible refine k_notB ?_ | with_reducible refine k_maxI ?_ | with_reducible refine k_minI ?_ | with_reducible refine k_lenS ?_
    | ((with_reducible refine k_mulI ?e ?_); (case e => omega)) | ((with_reducible refine k_divI ?e ?e2 ?_); (case e => omega); (case e2 => omega)) | ((with_reducible refine k_modI ?e ?_); (case e => omega)) | ((with_reducible refine k_powI ?e ?_); (case e => decide))
    | ((with_reducible refine k_lst ?e ?_); (case e => first | decide | (simp; done) | (simp; omega))) | ((with_reducible refine k_tupD ?e ?_); (case e => first | decide | (simp; done)))
    | ((with_reducible refine' k_lenL ?e ?_); (case e => assumption)) | ((with_reducible refine' k_ixL ?e ?e2 ?_); (case e => assumption); (case e2 => first | assumption | rfl)) | ((with_reducible refine' k_ixT ?e2 ?_); (case e2 => first | assumption | rfl)) | ((with_reducible refine' k_itR ?e ?_); (case e => assumption)))
  refine k_isiL ea ?_
  repeat (first
    | with_reducible refine k_seq ?_ | ((with_reducible refine k_then_nx ?_); try dsimp only [put]) | with_reducible refine k_e2 ?_ | ((with_reducible refine' k_var ?e ?_); (case e => rfl)) | with_reducible refine k_const ?_
    | with_reducible refine k_set ?_ | with_reducible refine k_if ?_ | with_reducible refine k_ret ?_ | with_reducible refine k_eL ?_ | with_reducible refine k_aCons ?_ | with_reducible refine k_aNil ?_ | with_reducible refine k_bT ?_ | with_reducible refine k_onB ?_
    | with_reducible refine k_call1 ?_ | with_reducible refine k_call2 ?_ | with_reducible refine k_call3 ?_ | with_reducible refine k_expr ?_ | with_reducible refine k_for ?_ | with_reducible refine k_meth ?_ | with_reducible refine k_sub ?_ | with_reducible refine k_par ?_ | with_reducible refine k_tup ?_
    | with_reducible refine k_iAny ?_ | with_reducible refine k_iRng1 ?_ | with_reducible refine k_iRng2 ?_ | with_reducible refine k_iEnm ?_ | with_reducible refine k_then_rt ?_ | with_reducible refine k_then_bk ?_ | with_reducible refine k_then_ct ?_ | with_reducible refine k_skip ?_ | with_reducible refine k_break ?_ | with_reducible refine k_cont ?_ | with_reducible refine k_retN ?_
    | with_reducible refine k_e1 ?_ | with_reducible refine k_not ?_ | with_reducible refine k_and ?_ | with_reducible refine k_or ?_ | with_reducible refine k_ifE ?_ | with_reducible refine k_chain ?_ | with_reducible refine k_slice ?_ | with_reducible refine k_oN ?_ | with_reducible refine k_oS ?_ | with_reducible refine k_lc ?_
    | with_reducible refine k_bAnd ?_ | with_reducible refine k_bOr ?_ | with_reducible refine k_bNot ?_ | with_reducible refine k_yes ?_ | with_reducible refine k_onI ?_ | with_reducible refine k_onR ?_ | with_reducible refine k_onL1 ?_ | with_reducible refine k_onL2 ?_ | with_reducible refine k_itT ?_ | with_reducible refine k_itS ?_
    | with_reducible refine k_ends_rt ?_ | with_reducible refine k_ends_nx ?_ | with_reducible refine k_true ?_ | with_reducible refine k_false ?_ | with_reducible refine k_ntrue ?_ | with_reducible refine k_nfalse ?_
    | with_reducible refine k_addI ?_ | with_reducible refine k_subI ?_ | with_reducible refine k_intI ?_ | with_reducible refine k_ltI ?_ | with_reducible refine k_gtI ?_ | with_reducible refine k_leI ?_ | with_reducible refine k_geI ?_ | with_reducible refine k_eqI ?_ | with_reducible refine k_neI ?_ | with_reducible refine k_eqS ?_ | with_reducible refine k_neS ?_ | with_reducible refine k_negI ?_ | with_reducible refine k_notB ?_ | with_reducible refine k_maxI ?_ | with_reducible refine k_minI ?_ | with_reducible refine k_lenS ?_
    | ((with_reducible refine k_mulI ?e ?_); (case e => omega)) | ((with_reducible refine k_divI ?e ?e2 ?_); (case e => omega); (case e2 => omega)) | ((with_reducible refine k_modI ?e ?_); (case e => omega)) | ((with_reducible refine k_powI ?e ?_); (case e => decide))
    | ((with_reducible refine k_lst ?e ?_); (case e => first | decide | (simp; done) | (simp; omega))) | ((with_reducible refine k_tupD ?e ?_); (case e => first | decide | (simp; done)))
    | ((with_reducible refine' k_lenL ?e ?_); (case e => assumption)) | ((with_reducible refine' k_ixL ?e ?e2 ?_); (case e => assumption); (case e2 => first | assumption | rfl)) | ((with_reducible refine' k_ixT ?e2 ?_); (case e2 => first | assumption | rfl)) | ((with_reducible refine' k_itR ?e ?_); (case e => assumption)))
  try refine k_itR ea ?_
  refine st_lcL (fun _ => true) (fun h y v => v = .bl true) ea (by simp [svs]; omega) (fun _ _ _ _ r _ => r) ?_ ?_
  · intro y g hy xt lt
    simp only [svs, List.mem_map] at hy
    obtain ⟨x, hx, rfl⟩ := hy
    refine ⟨_, rfl, k_yes ⟨rfl, Ext.refl, fun _ => ?_⟩⟩
    repeat (first
      | with_reducible refine k_seq ?_ | ((with_reducible refine k_then_nx ?_); try dsimp only [put]) | with_reducible refine k_e2 ?_ | ((with_reducible refine' k_var ?e ?_); (case e => rfl)) | with_reducible refine k_const ?_
      | with_reducible refine k_set ?_ | with_reducible refine k_if ?_ | with_reducible refine k_ret ?_ | with_reducible refine k_eL ?_ | with_reducible refine k_aCons ?_ | with_reducible refine k_aNil ?_ | with_reducible refine k_bT ?_ | with_reducible refine k_onB ?_
      | with_reducible refine k_call1 ?_ | with_reducible refine k_call2 ?_ | with_reducible refine k_call3 ?_ | with_reducible refine k_expr ?_ | with_reducible refine k_for ?_ | with_reducible refine k_meth ?_ | with_reducible refine k_sub ?_ | with_reducible refine k_par ?_ | with_reducible refine k_tup ?_
      | with_reducible refine k_iAny ?_ | with_reducible refine k_iRng1 ?_ | with_reducible refine k_iRng2 ?_ | with_reducible refine k_iEnm ?_ | with_reducible refine k_then_rt ?_ | with_reducible refine k_then_bk ?_ | with_reducible refine k_then_ct ?_ | with_reducible refine k_skip ?_ | with_reducible refine k_break ?_ | with_reducible refine k_cont ?_ | with_reducible refine k_retN ?_
      | with_reducible refine k_e1 ?_ | with_reducible refine k_not ?_ | with_reducible refine k_and ?_ | with_reducible refine k_or ?_ | with_reducible refine k_ifE ?_ | with_reducible refine k_chain ?_ | with_reducible refine k_slice ?_ | with_reducible refine k_oN ?_ | with_reducible refine k_oS ?_ | with_reducible refine k_lc ?_
      | with_reducible refine k_bAnd ?_ | with_reducible refine k_bOr ?_ | with_reducible refine k_bNot ?_ | with_reducible refine k_yes ?_ | with_reducible refine k_onI ?_ | with_reducible refine k_onR ?_ | with_reducible refine k_onL1 ?_ | with_reducible refine k_onL2 ?_ | with_reducible refine k_itT ?_ | with_reducible refine k_itS ?_
      | with_reducible refine k_ends_rt ?_ | with_reducible refine k_ends_nx ?_ | with_reducible refine k_true ?_ | with_reducible refine k_false ?_ | with_reducible refine k_ntrue ?_ | with_reducible refine k_nfalse ?_
      | with_reducible refine k_addI ?_ | with_reducible refine k_subI ?_ | with_reducible refine k_intI ?_ | with_reducible refine k_ltI ?_ | with_reducible refine k_gtI ?_ | with_reducible refine k_leI ?_ | with_reducible refine k_geI ?_ | with_reducible refine k_eqI ?_ | with_reducible refine k_neI ?_ | with_reducible refine k_eqS ?_ | with_reducible refine k_neS ?_ | with_reducible refine k_negI ?_ | with_reducible refine k_notB ?_ | with_reducible refine k_maxI ?_ | with_reducible refine k_minI ?_ | with_reducible refine k_lenS ?_
      | ((with_reducible refine k_mulI ?e ?_); (case e => omega)) | ((with_reducible refine k_divI ?e ?e2 ?_); (case e => omega); (case e2 => omega)) | ((with_reducible refine k_modI ?e ?_); (case e => omega)) | ((with_reducible refine k_powI ?e ?_); (case e => decide))
      | ((with_reducible refine k_lst ?e ?_); (case e => first | decide | (simp; done) | (simp; omega))) | ((with_reducible refine k_tupD ?e ?_); (case e => first | decide | (simp; done)))
      | ((with_reducible refine' k_lenL ?e ?_); (case e => assumption)) | ((with_reducible refine' k_ixL ?e ?e2 ?_); (case e => assumption); (case e2 => first | assumption | rfl)) | ((with_reducible refine' k_ixT ?e2 ?_); (case e2 => first | assumption | rfl)) | ((with_reducible refine' k_itR ?e ?_); (case e => assumption)))
    refine k_isiS ?_
    repeat (first
      | with_reducible refine k_seq ?_ | ((with_reducible refine k_then_nx ?_); try dsimp only [put]) | with_reducible refine k_e2 ?_ | ((with_reducible refine' k_var ?e ?_); (case e => rfl)) | with_reducible refine k_const ?_
      | with_reducible refine k_set ?_ | with_reducible refine k_if ?_ | with_reducible refine k_ret ?_ | with_reducible refine k_eL ?_ | with_reducible refine k_aCons ?_ | with_reducible refine k_aNil ?_ | with_reducible refine k_bT ?_ | with_reducible refine k_onB ?_
      | with_reducible refine k_call1 ?_ | with_reducible refine k_call2 ?_ | with_reducible refine k_call3 ?_ | with_reducible refine k_expr ?_ | with_reducible refine k_for ?_ | with_reducible refine k_meth ?_ | with_reducible refine k_sub ?_ | with_reducible refine k_par ?_ | with_reducible refine k_tup ?_
      | with_reducible refine k_iAny ?_ | with_reducible refine k_iRng1 ?_ | with_reducible refine k_iRng2 ?_ | with_reducible refine k_iEnm ?_ | with_reducible refine k_then_rt ?_ | with_reducible refine k_then_bk ?_ | with_reducible refine k_then_ct ?_ | with_reducible refine k_skip ?_ | with_reducible refine k_break ?_ | with_reducible refine k_cont ?_ | with_reducible refine k_retN ?_
      | with_reducible refine k_e1 ?_ | with_reducible refine k_not ?_ | with_reducible refine k_and ?_ | with_reducible refine k_or ?_ | with_reducible refine k_ifE ?_ | with_reducible refine k_chain ?_ | with_reducible refine k_slice ?_ | with_reducible refine k_oN ?_ | with_reducible refine k_oS ?_ | with_reducible refine k_lc ?_
      | with_reducible refine k_bAnd ?_ | with_reducible refine k_bOr ?_ | with_reducible refine k_bNot ?_ | with_reducible refine k_yes ?_ | with_reducible refine k_onI ?_ | with_reducible refine k_onR ?_ | with_reducible refine k_onL1 ?_ | with_reducible refine k_onL2 ?_ | with_reducible refine k_itT ?_ | with_reducible refine k_itS ?_
      | with_reducible refine k_ends_rt ?_ | with_reducible refine k_ends_nx ?_ | with_reducible refine k_true ?_ | with_reducible refine k_false ?_ | with_reducible refine k_ntrue ?_ | with_reducible refine k_nfalse ?_
      | with_reducible refine k_addI ?_ | with_reducible refine k_subI ?_ | with_reducible refine k_intI ?_ | with_reducible refine k_ltI ?_ | with_reducible refine k_gtI ?_ | with_reducible refine k_leI ?_ | with_reducible refine k_geI ?_ | with_reducible refine k_eqI ?_ | with_reducible refine k_neI ?_ | with_reducible refine k_eqS ?_ | with_reducible refine k_neS ?_ | with_reducible refine k_negI ?_ | with_reducible refine k_notB ?_ | with_reducible refine k_maxI ?_ | with_reducible refine k_minI ?_ | with_reducible refine k_lenS ?_
      | ((with_reducible refine k_mulI ?e ?_); (case e => omega)) | ((with_reducible refine k_divI ?e ?e2 ?_); (case e => omega); (case e2 => omega)) | ((with_reducible refine k_modI ?e ?_); (case e => omega)) | ((with_reducible refine k_powI ?e ?_); (case e => decide))
      | ((with_reducible refine k_lst ?e ?_); (case e => first | decide | (simp; done) | (simp; omega))) | ((with_reducible refine k_tupD ?e ?_); (case e => first | decide | (simp; done)))
      | ((with_reducible refine' k_lenL ?e ?_); (case e => assumption)) | ((with_reducible refine' k_ixL ?e ?e2 ?_); (case e => assumption); (case e2 => first | assumption | rfl)) | ((with_reducible refine' k_ixT ?e2 ?_); (case e2 => first | assumption | rfl)) | ((with_reducible refine' k_itR ?e ?_); (case e => assumption)))
    refine k_inLS (ep.ext xt) ?_
    rw [decide_eq_true (sub x hx)]
    exact ⟨rfl, Ext.refl⟩
  · intro g vs xt lt e al
    repeat (first
      | with_reducible refine k_seq ?_ | ((with_reducible refine k_then_nx ?_); try dsimp only [put]) | with_reducible refine k_e2 ?_ | ((with_reducible refine' k_var ?e ?_); (case e => rfl)) | with_reducible refine k_const ?_
      | with_reducible refine k_set ?_ | with_reducible refine k_if ?_ | with_reducible refine k_ret ?_ | with_reducible refine k_eL ?_ | with_reducible refine k_aCons ?_ | with_reducible refine k_aNil ?_ | with_reducible refine k_bT ?_ | with_reducible refine k_onB ?_
      | with_reducible refine k_call1 ?_ | with_reducible refine k_call2 ?_ | with_reducible refine k_call3 ?_ | with_reducible refine k_expr ?_ | with_reducible refine k_for ?_ | with_reducible refine k_meth ?_ | with_reducible refine k_sub ?_ | with_reducible refine k_par ?_ | with_reducible refine k_tup ?_
      | with_reducible refine k_iAny ?_ | with_reducible refine k_iRng1 ?_ | with_reducible refine k_iRng2 ?_ | with_reducible refine k_iEnm ?_ | with_reducible refine k_then_rt ?_ | with_reducible refine k_then_bk ?_ | with_reducible refine k_then_ct ?_ | with_reducible refine k_skip ?_ | with_reducible refine k_break ?_ | with_reducible refine k_cont ?_ | with_reducible refine k_retN ?_
      | with_reducible refine k_e1 ?_ | with_reducible refine k_not ?_ | with_reducible refine k_and ?_ | with_reducible refine k_or ?_ | with_reducible refine k_ifE ?_ | with_reducible refine k_chain ?_ | with_reducible refine k_slice ?_ | with_reducible refine k_oN ?_ | with_reducible refine k_oS ?_ | with_reducible refine k_lc ?_
      | with_reducible refine k_bAnd ?_ | with_reducible refine k_bOr ?_ | with_reducible refine k_bNot ?_ | with_reducible refine k_yes ?_ | with_reducible refine k_onI ?_ | with_reducible refine k_onR ?_ | with_reducible refine k_onL1 ?_ | with_reducible refine k_onL2 ?_ | with_reducible refine k_itT ?_ | with_reducible refine k_itS ?_
      | with_reducible refine k_ends_rt ?_ | with_reducible refine k_ends_nx ?_ | with_reducible refine k_true ?_ | with_reducible refine k_false ?_ | with_reducible refine k_ntrue ?_ | with_reducible refine k_nfalse ?_
      | with_reducible refine k_addI ?_ | with_reducible refine k_subI ?_ | with_reducible refine k_intI ?_ | with_reducible refine k_ltI ?_ | with_reducible refine k_gtI ?_ | with_reducible refine k_leI ?_ | with_reducible refine k_geI ?_ | with_reducible refine k_eqI ?_ | with_reducible refine k_neI ?_ | with_reducible refine k_eqS ?_ | with_reducible refine k_neS ?_ | with_reducible refine k_negI ?_ | with_reducible refine k_notB ?_ | with_reducible refine k_maxI ?_ | with_reducible refine k_minI ?_ | with_reducible refine k_lenS ?_
      | ((with_reducible refine k_mulI ?e ?_); (case e => omega)) | ((with_reducible refine k_divI ?e ?e2 ?_); (case e => omega); (case e2 => omega)) | ((with_reducible refine k_modI ?e ?_); (case e => omega)) | ((with_reducible refine k_powI ?e ?_); (case e => decide))
      | ((with_reducible refine k_lst ?e ?_); (case e => first | decide | (simp; done) | (simp; omega))) | ((with_reducible refine k_tupD ?e ?_); (case e => first | decide | (simp; done)))
      | ((with_reducible refine' k_lenL ?e ?_); (case e => assumption)) | ((with_reducible refine' k_ixL ?e ?e2 ?_); (case e => assumption); (case e2 => first | assumption | rfl)) | ((with_reducible refine' k_ixT ?e2 ?_); (case e2 => first | assumption | rfl)) | ((with_reducible refine' k_itR ?e ?_); (case e => assumption)))
    refine k_allT e ?_ ?_
    · intro v hv
      have := al.fn (f := fun _ => Pv.bl true)
      rw [this] at hv
      simp at hv
      exact hv.2.symm
    · have ea' := ea.ext xt
      repeat (first
        | with_reducible refine k_seq ?_ | ((with_reducible refine k_then_nx ?_); try dsimp only [put]) | with_reducible refine k_e2 ?_ | ((with_reducible refine' k_var ?e ?_); (case e => rfl)) | with_reducible refine k_const ?_
        | with_reducible refine k_set ?_ | with_reducible refine k_if ?_ | with_reducible refine k_ret ?_ | with_reducible refine k_eL ?_ | with_reducible refine k_aCons ?_ | with_reducible refine k_aNil ?_ | with_reducible refine k_bT ?_ | with_reducible refine k_onB ?_
        | with_reducible refine k_call1 ?_ | with_reducible refine k_call2 ?_ | with_reducible refine k_call3 ?_ | with_reducible refine k_expr ?_ | with_reducible refine k_for ?_ | with_reducible refine k_meth ?_ | with_reducible refine k_sub ?_ | with_reducible refine k_par ?_ | with_reducible refine k_tup ?_
        | with_reducible refine k_iAny ?_ | with_reducible refine k_iRng1 ?_ | with_reducible refine k_iRng2 ?_ | with_reducible refine k_iEnm ?_ | with_reducible refine k_then_rt ?_ | with_reducible refine k_then_bk ?_ | with_reducible refine k_then_ct ?_ | with_reducible refine k_skip ?_ | with_reducible refine k_break ?_ | with_reducible refine k_cont ?_ | with_reducible refine k_retN ?_
        | with_reducible refine k_e1 ?_ | with_reducible refine k_not ?_ | with_reducible refine k_and ?_ | with_reducible refine k_or ?_ | with_reducible refine k_ifE ?_ | with_reducible refine k_chain ?_ | with_reducible refine k_slice ?_ | with_reducible refine k_oN ?_ | with_reducible refine k_oS ?_ | with_reducible refine k_lc ?_
        | with_reducible refine k_bAnd ?_ | with_reducible refine k_bOr ?_ | with_reducible refine k_bNot ?_ | with_reducible refine k_yes ?_ | with_reducible refine k_onI ?_ | with_reducible refine k_onR ?_ | with_reducible refine k_onL1 ?_ | with_reducible refine k_onL2 ?_ | with_reducible refine k_itT ?_ | with_reducible refine k_itS ?_
        | with_reducible refine k_ends_rt ?_ | with_reducible refine k_ends_nx ?_ | with_reducible refine k_true ?_ | with_reducible refine k_false ?_ | with_reducible refine k_ntrue ?_ | with_reducible refine k_nfalse ?_
        | with_reducible refine k_addI ?_ | with_reducible refine k_subI ?_ | with_reducible refine k_intI ?_ | with_reducible refine k_ltI ?_ | with_reducible refine k_gtI ?_ | with_reducible refine k_leI ?_ | with_reducible refine k_geI ?_ | with_reducible refine k_eqI ?_ | with_reducible refine k_neI ?_ | with_reducible refine k_eqS ?_ | with_reducible refine k_neS ?_ | with_reducible refine k_negI ?_ | with_reducible refine k_notB ?_ | with_reducible refine k_maxI ?_ | with_reducible refine k_minI ?_ | with_reducible refine k_lenS ?_
        | ((with_reducible refine k_mulI ?e ?_); (case e => omega)) | ((with_reducible refine k_divI ?e ?e2 ?_); (case e => omega); (case e2 => omega)) | ((with_reducible refine k_modI ?e ?_); (case e => omega)) | ((with_reducible refine k_powI ?e ?_); (case e => decide))
        | ((with_reducible refine k_lst ?e ?_); (case e => first | decide | (simp; done) | (simp; omega))) | ((with_reducible refine k_tupD ?e ?_); (case e => first | decide | (simp; done)))
        | ((with_reducible refine' k_lenL ?e ?_); (case e => assumption)) | ((with_reducible refine' k_ixL ?e ?e2 ?_); (case e => assumption); (case e2 => first | assumption | rfl)) | ((with_reducible refine' k_ixT ?e2 ?_); (case e2 => first | assumption | rfl)) | ((with_reducible refine' k_itR ?e ?_); (case e => assumption)))
      refine k_lenSet ea' nd (by omega) ?_
      repeat (first
        | with_reducible refine k_seq ?_ | ((with_reducible refine k_then_nx ?_); try dsimp only [put]) | with_reducible refine k_e2 ?_ | ((with_reducible refine' k_var ?e ?_); (case e => rfl)) | with_reducible refine k_const ?_
        | with_reducible refine k_set ?_ | with_reducible refine k_if ?_ | with_reducible refine k_ret ?_ | with_reducible refine k_eL ?_ | with_reducible refine k_aCons ?_ | with_reducible refine k_aNil ?_ | with_reducible refine k_bT ?_ | with_reducible refine k_onB ?_
        | with_reducible refine k_call1 ?_ | with_reducible refine k_call2 ?_ | with_reducible refine k_call3 ?_ | with_reducible refine k_expr ?_ | with_reducible refine k_for ?_ | with_reducible refine k_meth ?_ | with_reducible refine k_sub ?_ | with_reducible refine k_par ?_ | with_reducible refine k_tup ?_
        | with_reducible refine k_iAny ?_ | with_reducible refine k_iRng1 ?_ | with_reducible refine k_iRng2 ?_ | with_reducible refine k_iEnm ?_ | with_reducible refine k_then_rt ?_ | with_reducible refine k_then_bk ?_ | with_reducible refine k_then_ct ?_ | with_reducible refine k_skip ?_ | with_reducible refine k_break ?_ | with_reducible refine k_cont ?_ | with_reducible refine k_retN ?_
        | with_reducible refine k_e1 ?_ | with_reducible refine k_not ?_ | with_reducible refine k_and ?_ | with_reducible refine k_or ?_ | with_reducible refine k_ifE ?_ | with_reducible refine k_chain ?_ | with_reducible refine k_slice ?_ | with_reducible refine k_oN ?_ | with_reducible refine k_oS ?_ | with_reducible refine k_lc ?_
        | with_reducible refine k_bAnd ?_ | with_reducible refine k_bOr ?_ | with_reducible refine k_bNot ?_ | with_reducible refine k_yes ?_ | with_reducible refine k_onI ?_ | with_reducible refine k_onR ?_ | with_reducible refine k_onL1 ?_ | with_reducible refine k_onL2 ?_ | with_reducible refine k_itT ?_ | with_reducible refine k_itS ?_
        | with_reducible refine k_ends_rt ?_ | with_reducible refine k_ends_nx ?_ | with_reducible refine k_true ?_ | with_reducible refine k_false ?_ | with_reducible refine k_ntrue ?_ | with_reducible refine k_nfalse ?_
        | with_reducible refine k_addI ?_ | with_reducible refine k_subI ?_ | with_reducible refine k_intI ?_ | with_reducible refine k_ltI ?_ | with_reducible refine k_gtI ?_ | with_reducible refine k_leI ?_ | with_reducible refine k_geI ?_ | with_reducible refine k_eqI ?_ | with_reducible refine k_neI ?_ | with_reducible refine k_eqS ?_ | with_reducible refine k_neS ?_ | with_reducible refine k_negI ?_ | with_reducible refine k_notB ?_ | with_reducible refine k_maxI ?_ | with_reducible refine k_minI ?_ | with_reducible refine k_lenS ?_
        | ((with_reducible refine k_mulI ?e ?_); (case e => omega)) | ((with_reducible refine k_divI ?e ?e2 ?_); (case e => omega); (case e2 => omega)) | ((with_reducible refine k_modI ?e ?_); (case e => omega)) | ((with_reducible refine k_powI ?e ?_); (case e => decide))
        | ((with_reducible refine k_lst ?e ?_); (case e => first | decide | (simp; done) | (simp; omega))) | ((with_reducible refine k_tupD ?e ?_); (case e => first | decide | (simp; done)))
        | ((with_reducible refine' k_lenL ?e ?_); (case e => assumption)) | ((with_reducible refine' k_ixL ?e ?e2 ?_); (case e => assumption); (case e2 => first | assumption | rfl)) | ((with_reducible refine' k_ixT ?e2 ?_); (case e2 => first | assumption | rfl)) | ((with_reducible refine' k_itR ?e ?_); (case e => assumption)))
      try refine k_lenL ea' ?_
      repeat (first
        | with_reducible refine k_seq ?_ | ((with_reducible refine k_then_nx ?_); try dsimp only [put]) | with_reducible refine k_e2 ?_ | ((with_reducible refine' k_var ?e ?_); (case e => rfl)) | with_reducible refine k_const ?_
        | with_reducible refine k_set ?_ | with_reducible refine k_if ?_ | with_reducible refine k_ret ?_ | with_reducible refine k_eL ?_ | with_reducible refine k_aCons ?_ | with_reducible refine k_aNil ?_ | with_reducible refine k_bT ?_ | with_reducible refine k_onB ?_
        | with_reducible refine k_call1 ?_ | with_reducible refine k_call2 ?_ | with_reducible refine k_call3 ?_ | with_reducible refine k_expr ?_ | with_reducible refine k_for ?_ | with_reducible refine k_meth ?_ | with_reducible refine k_sub ?_ | with_reducible refine k_par ?_ | with_reducible refine k_tup ?_
        | with_reducible refine k_iAny ?_ | with_reducible refine k_iRng1 ?_ | with_reducible refine k_iRng2 ?_ | with_reducible refine k_iEnm ?_ | with_reducible refine k_then_rt ?_ | with_reducible refine k_then_bk ?_ | with_reducible refine k_then_ct ?_ | with_reducible refine k_skip ?_ | with_reducible refine k_break ?_ | with_reducible refine k_cont ?_ | with_reducible refine k_retN ?_
        | with_reducible refine k_e1 ?_ | with_reducible refine k_not ?_ | with_reducible refine k_and ?_ | with_reducible refine k_or ?_ | with_reducible refine k_ifE ?_ | with_reducible refine k_chain ?_ | with_reducible refine k_slice ?_ | with_reducible refine k_oN ?_ | with_reducible refine k_oS ?_ | with_reducible refine k_lc ?_
        | with_reducible refine k_bAnd ?_ | with_reducible refine k_bOr ?_ | with_reducible refine k_bNot ?_ | with_reducible refine k_yes ?_ | with_reducible refine k_onI ?_ | with_reducible refine k_onR ?_ | with_reducible refine k_onL1 ?_ | with_reducible refine k_onL2 ?_ | with_reducible refine k_itT ?_ | with_reducible refine k_itS ?_
        | with_reducible refine k_ends_rt ?_ | with_reducible refine k_ends_nx ?_ | with_reducible refine k_true ?_ | with_reducible refine k_false ?_ | with_reducible refine k_ntrue ?_ | with_reducible refine k_nfalse ?_
        | with_reducible refine k_addI ?_ | with_reducible refine k_subI ?_ | with_reducible refine k_intI ?_ | with_reducible refine k_ltI ?_ | with_reducible refine k_gtI ?_ | with_reducible refine k_leI ?_ | with_reducible refine k_geI ?_ | with_reducible refine k_eqI ?_ | with_reducible refine k_neI ?_ | with_reducible refine k_eqS ?_ | with_reducible refine k_neS ?_ | with_reducible refine k_negI ?_ | with_reducible refine k_notB ?_ | with_reducible refine k_maxI ?_ | with_reducible refine k_minI ?_ | with_reducible refine k_lenS ?_
        | ((with_reducible refine k_mulI ?e ?_); (case e => omega)) | ((with_reducible refine k_divI ?e ?e2 ?_); (case e => omega); (case e2 => omega)) | ((with_reducible refine k_modI ?e ?_); (case e => omega)) | ((with_reducible refine k_powI ?e ?_); (case e => decide))
        | ((with_reducible refine k_lst ?e ?_); (case e => first | decide | (simp; done) | (simp; omega))) | ((with_reducible refine k_tupD ?e ?_); (case e => first | decide | (simp; done)))
        | ((with_reducible refine' k_lenL ?e ?_); (case e => assumption)) | ((with_reducible refine' k_ixL ?e ?e2 ?_); (case e => assumption); (case e2 => first | assumption | rfl)) | ((with_reducible refine' k_ixT ?e2 ?_); (case e2 => first | assumption | rfl)) | ((with_reducible refine' k_itR ?e ?_); (case e => assumption)))
      refine ⟨?_, xt⟩
      simp [svs]
/-- a triple is in doubt -/
def bad (sets : List (List Str)) (tr : List Str) : Bool := !decide (tr ∈ sets.map (trc tr)) || decide (((cmb 2 tr).filter fun ys => decide (ys ∈ sets.map (trc tr))).length < 2)
def doubtF (xs : List Str) (sets : List (List Str)) : Option (List Str) := (cmb 3 xs).find? (bad sets)
def Told (b : Nat) (h : Hh) (o : Option (List Str)) (v : Pv) : Prop := match o with
  | some tr => ∃ q, v = .ref q ∧ b ≤ q ∧ LS h q tr
  | none => v = .non
theorem find_take {α : Type} {p : α → Bool} : ∀ (l : List α) (i : Nat) (x : α), l[i]? = some x → (∀ y ∈ l.take i, p y = false) → p x = true → l.find? p = some x
  | y :: l, 0, x, e, _, hx => by
    simp at e; subst e
    simp [hx]
  | y :: l, i + 1, x, e, hn, hx => by
    have hy := hn y (by simp)
    rw [List.find?_cons, hy]
    exact find_take l i x (by simpa using e) (fun z hz => hn z (by simp [hz])) hx
theorem cmb_sub_len : ∀ (m : Nat) (xs : List Str), xs.length ≤ 30 → m ≤ 3 → (cmb m xs).length ≤ 27000 := fun m xs h1 h2 =>
  Nat.le_trans (cmb_len 30 m xs h1) (Nat.le_trans (Nat.pow_le_pow_right (by decide) h2) (by decide))
theorem in_doubt_sat {h : Hh} {p s : Nat} {xs : List Str} {sets : List (List Str)} (ep : LS h p xs) (es : LL h s sets) (ok : ∀ x ∈ xs, okN x) (nd : xs.Nodup) (h2 : 2 ≤ xs.length) (h3 : xs.length ≤ 30)
    (hs : sets.length ≤ 1000) (hso : ∀ ys ∈ sets, (∀ y ∈ ys, y ∈ xs) ∧ ys.Nodup ∧ ys.length ≤ 30) :
    Sat (d_in_doubt [.ref p, .ref s] h) (fun v h' => Told h.length h' (doubtF (ssort xs) sets) v ∧ Ext h h') NoX := by
  unfold d_in_doubt
  refine st_fn' (σ0 := [some (.ref p), some (.ref s), none, none, none, none, none, none, none]) rfl ?_
  repeat (first
    | with_reducible refine k_seq ?_ | ((with_reducible refine k_then_nx ?_); try dsimp only [put]) | with_reducible refine k_e2 ?_ | ((with_reducible refine' k_var ?e ?_); (case e => rfl)) | with_reducible refine k_const ?_
    | with_reducible refine k_set ?_ | with_reducible refine k_if ?_ | with_reducible refine k_ret ?_ | with_reducible refine k_eL ?_ | with_reducible refine k_aCons ?_ | with_reducible refine k_aNil ?_ | with_reducible refine k_bT ?_ | with_reducible refine k_onB ?_
    | with_reducible refine k_call1 ?_ | with_reducible refine k_call2 ?_ | with_reducible refine k_call3 ?_ | with_reducible refine k_expr ?_ | with_reducible refine k_for ?_ | with_reducible refine k_meth ?_ | with_reducible refine k_sub ?_ | with_reducible refine k_par ?_ | with_reducible refine k_tup ?_
    | with_reducible refine k_iAny ?_ | with_reducible refine k_iRng1 ?_ | with_reducible refine k_iRng2 ?_ | with_reducible refine k_iEnm ?_ | with_reducible refine k_then_rt ?_ | with_reducible refine k_then_bk ?_ | with_reducible refine k_then_ct ?_ | with_reducible refine k_skip ?_ | with_reducible refine k_break ?_ | with_reducible refine k_cont ?_ | with_reducible refine k_retN ?_
    | with_reducible refine k_e1 ?_ | with_reducible refine k_not ?_ | with_reducible refine k_and ?_ | with_reducible refine k_or ?_ | with_reducible refine k_ifE ?_ | with_reducible refine k_chain ?_ | with_reducible refine k_slice ?_ | with_reducible refine k_oN ?_ | with_reducible refine k_oS ?_ | with_reducible refine k_lc ?_
    | with_reducible refine k_bAnd ?_ | with_reducible refine k_bOr ?_ | with_reducible refine k_bNot ?_ | with_reducible refine k_yes ?_ | with_reducible refine k_onI ?_ | with_reducible refine k_onR ?_ | with_reducible refine k_onL1 ?_ | with_reducible refine k_onL2 ?_ | with_reducible refine k_itT ?_ | with_reducible refine k_itS ?_
    | with_reducible refine k_ends_rt ?_ | with_reducible refine k_ends_nx ?_ | with_reducible refine k_true ?_ | with_reducible refine k_false ?_ | with_reducible refine k_ntrue ?_ | with_reducible refine k_nfalse ?_
    | with_reducible refine k_addI ?_ | with_reducible refine k_subI ?_ | with_reducible refine k_intI ?_ | with_reducible refine k_ltI ?_ | with_reducible refine k_gtI ?_ | with_reducible refine k_leI ?_ | with_reducible refine k_geI ?_ | with_reducible refine k_eqI ?_ | with_reducible refine k_neI ?_ | with_reducible refine k_eqS ?_ | with_reducible refine k_neS ?_ | with_reducible refine k_negI ?_ | with_reducible refine k_notB ?_ | with_reducible refine k_maxI ?_ | with_reducible refine k_minI ?_ | with_reducible refine k_lenS ?_
    | ((with_reducible refine k_mulI ?e ?_); (case e => omega)) | ((with_reducible refine k_divI ?e ?e2 ?_); (case e => omega); (case e2 => omega)) | ((with_reducible refine k_modI ?e ?_); (case e => omega)) | ((with_reducible refine k_powI ?e ?_); (case e => decide))
    | ((with_reducible refine k_lst ?e ?_); (case e => first | decide | (simp; done) | (simp; omega))) | ((with_reducible refine k_tupD ?e ?_); (case e => first | decide | (simp; done)))
    | ((with_reducible refine' k_lenL ?e ?_); (case e => assumption)) | ((with_reducible refine' k_ixL ?e ?e2 ?_); (case e => assumption); (case e2 => first | assumption | rfl)) | ((with_reducible refine' k_ixT ?e2 ?_); (case e2 => first | assumption | rfl)) | ((with_reducible refine' k_itR ?e ?_); (case e => assumption)))
  refine (check_leaves_sat ep ok nd h2 h3).then fun v g q => ?_
  obtain ⟨rfl, xt⟩ := q
  obtain ⟨vs, es1, als⟩ := id (es.ext xt)
  have lvs := als.length
  repeat (first
    | with_reducible refine k_seq ?_ | ((with_reducible refine k_then_nx ?_); try dsimp only [put]) | with_reducible refine k_e2 ?_ | ((with_reducible refine' k_var ?e ?_); (case e => rfl)) | with_reducible refine k_const ?_
    | with_reducible refine k_set ?_ | with_reducible refine k_if ?_ | with_reducible refine k_ret ?_ | with_reducible refine k_eL ?_ | with_reducible refine k_aCons ?_ | with_reducible refine k_aNil ?_ | with_reducible refine k_bT ?_ | with_reducible refine k_onB ?_
    | with_reducible refine k_call1 ?_ | with_reducible refine k_call2 ?_ | with_reducible refine k_call3 ?_ | with_reducible refine k_expr ?_ | with_reducible refine k_for ?_ | with_reducible refine k_meth ?_ | with_reducible refine k_sub ?_ | with_reducible refine k_par ?_ | with_reducible refine k_tup ?_
    | with_reducible refine k_iAny ?_ | with_reducible refine k_iRng1 ?_ | with_reducible refine k_iRng2 ?_ | with_reducible refine k_iEnm ?_ | with_reducible refine k_then_rt ?_ | with_reducible refine k_then_bk ?_ | with_reducible refine k_then_ct ?_ | with_reducible refine k_skip ?_ | with_reducible refine k_break ?_ | with_reducible refine k_cont ?_ | with_reducible refine k_retN ?_
    | with_reducible refine k_e1 ?_ | with_reducible refine k_not ?_ | with_reducible refine k_and ?_ | with_reducible refine k_or ?_ | with_reducible refine k_ifE ?_ | with_reducible refine k_chain ?_ | with_reducible refine k_slice ?_ | with_reducible refine k_oN ?_ | with_reducible refine k_oS ?_ | with_reducible refine k_lc ?_
    | with_reducible refine k_bAnd ?_ | with_reducible refine k_bOr ?_ | with_reducible refine k_bNot ?_ | with_reducible refine k_yes ?_ | with_reducible refine k_onI ?_ | with_reducible refine k_onR ?_ | with_reducible refine k_onL1 ?_ | with_reducible refine k_onL2 ?_ | with_reducible refine k_itT ?_ | with_reducible refine k_itS ?_
    | with_reducible refine k_ends_rt ?_ | with_reducible refine k_ends_nx ?_ | with_reducible refine k_true ?_ | with_reducible refine k_false ?_ | with_reducible refine k_ntrue ?_ | with_reducible refine k_nfalse ?_
    | with_reducible refine k_addI ?_ | with_reducible refine k_subI ?_ | with_reducible refine k_intI ?_ | with_reducible refine k_ltI ?_ | with_reducible refine k_gtI ?_ | with_reducible refine k_leI ?_ | with_reducible refine k_geI ?_ | with_reducible refine k_eqI ?_ | with_reducible refine k_neI ?_ | with_reducible refine k_eqS ?_ | with_reducible refine k_neS ?_ | with_reducible refine k_negI ?_ | with_reducible refine k_notB ?_ | with_reducible refine k_maxI ?_ | with_reducible refine k_minI ?_ | with_reducible refine k_lenS ?_
    | ((with_reducible refine k_mulI ?e ?_); (case e => omega)) | ((with_reducible refine k_divI ?e ?e2 ?_); (case e => omega); (case e2 => omega)) | ((with_reducible refine k_modI ?e ?_); (case e => omega)) | ((with_reducible refine k_powI ?e ?_); (case e => decide))
    | ((with_reducible refine k_lst ?e ?_); (case e => first | decide | (simp; done) | (simp; omega))) | ((with_reducible refine k_tupD ?e ?_); (case e => first | decide | (simp; done)))
    | ((with_reducible refine' k_lenL ?e ?_); (case e => assumption)) | ((with_reducible refine' k_ixL ?e ?e2 ?_); (case e => assumption); (case e2 => first | assumption | rfl)) | ((with_reducible refine' k_ixT ?e2 ?_); (case e2 => first | assumption | rfl)) | ((with_reducible refine' k_itR ?e ?_); (case e => assumption)))
  refine k_isiL es1 ?_
  repeat (first
    | with_reducible refine k_seq ?_ | ((with_reducible refine k_then_nx ?_); try dsimp only [put]) | with_reducible refine k_e2 ?_ | ((with_reducible refine' k_var ?e ?_); (case e => rfl)) | with_reducible refine k_const ?_
    | with_reducible refine k_set ?_ | with_reducible refine k_if ?_ | with_reducible refine k_ret ?_ | with_reducible refine k_eL ?_ | with_reducible refine k_aCons ?_ | with_reducible refine k_aNil ?_ | with_reducible refine k_bT ?_ | with_reducible refine k_onB ?_
    | with_reducible refine k_call1 ?_ | with_reducible refine k_call2 ?_ | with_reducible refine k_call3 ?_ | with_reducible refine k_expr ?_ | with_reducible refine k_for ?_ | with_reducible refine k_meth ?_ | with_reducible refine k_sub ?_ | with_reducible refine k_par ?_ | with_reducible refine k_tup ?_
    | with_reducible refine k_iAny ?_ | with_reducible refine k_iRng1 ?_ | with_reducible refine k_iRng2 ?_ | with_reducible refine k_iEnm ?_ | with_reducible refine k_then_rt ?_ | with_reducible refine k_then_bk ?_ | with_reducible refine k_then_ct ?_ | with_reducible refine k_skip ?_ | with_reducible refine k_break ?_ | with_reducible refine k_cont ?_ | with_reducible refine k_retN ?_
    | with_reducible refine k_e1 ?_ | with_reducible refine k_not ?_ | with_reducible refine k_and ?_ | with_reducible refine k_or ?_ | with_reducible refine k_ifE ?_ | with_reducible refine k_chain ?_ | with_reducible refine k_slice ?_ | with_reducible refine k_oN ?_ | with_reducible refine k_oS ?_ | with_reducible refine k_lc ?_
    | with_reducible refine k_bAnd ?_ | with_reducible refine k_bOr ?_ | with_reducible refine k_bNot ?_ | with_reducible refine k_yes ?_ | with_reducible refine k_onI ?_ | with_reducible refine k_onR ?_ | with_reducible refine k_onL1 ?_ | with_reducible refine k_onL2 ?_ | with_reducible refine k_itT ?_ | with_reducible refine k_itS ?_
    | with_reducible refine k_ends_rt ?_ | with_reducible refine k_ends_nx ?_ | with_reducible refine k_true ?_ | with_reducible refine k_false ?_ | with_reducible refine k_ntrue ?_ | with_reducible refine k_nfalse ?_
    | with_reducible refine k_addI ?_ | with_reducible refine k_subI ?_ | with_reducible refine k_intI ?_ | with_reducible refine k_ltI ?_ | with_reducible refine k_gtI ?_ | with_reducible refine k_leI ?_ | with_reducible refine k_geI ?_ | with_reducible refine k_eqI ?_ | with_reducible refine k_neI ?_ | with_reducible refine k_eqS ?_ | with_reducible refine k_neS ?_ | with_reducible refine k_negI ?_ | with_reducible refine k_notB ?_ | with_reducible refine k_maxI ?_ | with_reducible refine k_minI ?_ | with_reducible refine k_lenS ?_
    | ((with_reducible refine k_mulI ?e ?_); (case e => omega)) | ((with_reducible refine k_divI ?e ?e2 ?_); (case e => omega); (case e2 => omega)) | ((with_reducible refine k_modI ?e ?_); (case e => omega)) | ((with_reducible refine k_powI ?e ?_); (case e => decide))
    | ((with_reducible refine k_lst ?e ?_); (case e => first | decide | (simp; done) | (simp; omega))) | ((with_reducible refine k_tupD ?e ?_); (case e => first | decide | (simp; done)))
    | ((with_reducible refine' k_lenL ?e ?_); (case e => assumption)) | ((with_reducible refine' k_ixL ?e ?e2 ?_); (case e => assumption); (case e2 => first | assumption | rfl)) | ((with_reducible refine' k_ixT ?e2 ?_); (case e2 => first | assumption | rfl)) | ((with_reducible refine' k_itR ?e ?_); (case e => assumption)))
  try refine k_itR es1 ?_
  refine st_lcL (fun _ => true) (fun h y v => v = .bl true) es1 (by omega) (fun _ _ _ _ r _ => r) ?_ ?_
  · intro y g1 hy xt1 lt
    obtain ⟨j, hj, ej⟩ := List.getElem_of_mem hy
    obtain ⟨ys, ey, q, rfl, eq⟩ := als.get (i := j) (by rw [List.getElem?_eq_getElem hj, ej])
    obtain ⟨c1, c2, c3⟩ := hso ys (List.mem_of_getElem? ey)
    refine ⟨_, rfl, k_yes ⟨rfl, Ext.refl, fun _ => ?_⟩⟩
    repeat (first
      | with_reducible refine k_seq ?_ | ((with_reducible refine k_then_nx ?_); try dsimp only [put]) | with_reducible refine k_e2 ?_ | ((with_reducible refine' k_var ?e ?_); (case e => rfl)) | with_reducible refine k_const ?_
      | with_reducible refine k_set ?_ | with_reducible refine k_if ?_ | with_reducible refine k_ret ?_ | with_reducible refine k_eL ?_ | with_reducible refine k_aCons ?_ | with_reducible refine k_aNil ?_ | with_reducible refine k_bT ?_ | with_reducible refine k_onB ?_
      | with_reducible refine k_call1 ?_ | with_reducible refine k_call2 ?_ | with_reducible refine k_call3 ?_ | with_reducible refine k_expr ?_ | with_reducible refine k_for ?_ | with_reducible refine k_meth ?_ | with_reducible refine k_sub ?_ | with_reducible refine k_par ?_ | with_reducible refine k_tup ?_
      | with_reducible refine k_iAny ?_ | with_reducible refine k_iRng1 ?_ | with_reducible refine k_iRng2 ?_ | with_reducible refine k_iEnm ?_ | with_reducible refine k_then_rt ?_ | with_reducible refine k_then_bk ?_ | with_reducible refine k_then_ct ?_ | with_reducible refine k_skip ?_ | with_reducible refine k_break ?_ | with_reducible refine k_cont ?_ | with_reducible refine k_retN ?_
      | with_reducible refine k_e1 ?_ | with_reducible refine k_not ?_ | with_reducible refine k_and ?_ | with_reducible refine k_or ?_ | with_reducible refine k_ifE ?_ | with_reducible refine k_chain ?_ | with_reducible refine k_slice ?_ | with_reducible refine k_oN ?_ | with_reducible refine k_oS ?_ | with_reducible refine k_lc ?_
      | with_reducible refine k_bAnd ?_ | with_reducible refine k_bOr ?_ | with_reducible refine k_bNot ?_ | with_reducible refine k_yes ?_ | with_reducible refine k_onI ?_ | with_reducible refine k_onR ?_ | with_reducible refine k_onL1 ?_ | with_reducible refine k_onL2 ?_ | with_reducible refine k_itT ?_ | with_reducible refine k_itS ?_
      | with_reducible refine k_ends_rt ?_ | with_reducible refine k_ends_nx ?_ | with_reducible refine k_true ?_ | with_reducible refine k_false ?_ | with_reducible refine k_ntrue ?_ | with_reducible refine k_nfalse ?_
      | with_reducible refine k_addI ?_ | with_reducible refine k_subI ?_ | with_reducible refine k_intI ?_ | with_reducible refine k_ltI ?_ | with_reducible refine k_gtI ?_ | with_reducible refine k_leI ?_ | with_reducible refine k_geI ?_ | with_reducible refine k_eqI ?_ | with_reducible refine k_neI ?_ | with_reducible refine k_eqS ?_ | with_reducible refine k_neS ?_ | with_reducible refine k_negI ?_ | with_reducible refine k_notB ?_ | with_reducible refine k_maxI ?_ | with_reducible refine k_minI ?_ | with_reducible refine k_lenS ?_
      | ((with_reducible refine k_mulI ?e ?_); (case e => omega)) | ((with_reducible refine k_divI ?e ?e2 ?_); (case e => omega); (case e2 => omega)) | ((with_reducible refine k_modI ?e ?_); (case e => omega)) | ((with_reducible refine k_powI ?e ?_); (case e => decide))
      | ((with_reducible refine k_lst ?e ?_); (case e => first | decide | (simp; done) | (simp; omega))) | ((with_reducible refine k_tupD ?e ?_); (case e => first | decide | (simp; done)))
      | ((with_reducible refine' k_lenL ?e ?_); (case e => assumption)) | ((with_reducible refine' k_ixL ?e ?e2 ?_); (case e => assumption); (case e2 => first | assumption | rfl)) | ((with_reducible refine' k_ixT ?e2 ?_); (case e2 => first | assumption | rfl)) | ((with_reducible refine' k_itR ?e ?_); (case e => assumption)))
    exact (are_some_sat (eq.ext xt1) (ep.ext (xt.trans xt1)) c1 c2 c3).then fun v g' q => q
  · intro g1 vs1 xt1 lt e1 al1
    repeat (first
      | with_reducible refine k_seq ?_ | ((with_reducible refine k_then_nx ?_); try dsimp only [put]) | with_reducible refine k_e2 ?_ | ((with_reducible refine' k_var ?e ?_); (case e => rfl)) | with_reducible refine k_const ?_
      | with_reducible refine k_set ?_ | with_reducible refine k_if ?_ | with_reducible refine k_ret ?_ | with_reducible refine k_eL ?_ | with_reducible refine k_aCons ?_ | with_reducible refine k_aNil ?_ | with_reducible refine k_bT ?_ | with_reducible refine k_onB ?_
      | with_reducible refine k_call1 ?_ | with_reducible refine k_call2 ?_ | with_reducible refine k_call3 ?_ | with_reducible refine k_expr ?_ | with_reducible refine k_for ?_ | with_reducible refine k_meth ?_ | with_reducible refine k_sub ?_ | with_reducible refine k_par ?_ | with_reducible refine k_tup ?_
      | with_reducible refine k_iAny ?_ | with_reducible refine k_iRng1 ?_ | with_reducible refine k_iRng2 ?_ | with_reducible refine k_iEnm ?_ | with_reducible refine k_then_rt ?_ | with_reducible refine k_then_bk ?_ | with_reducible refine k_then_ct ?_ | with_reducible refine k_skip ?_ | with_reducible refine k_break ?_ | with_reducible refine k_cont ?_ | with_reducible refine k_retN ?_
      | with_reducible refine k_e1 ?_ | with_reducible refine k_not ?_ | with_reducible refine k_and ?_ | with_reducible refine k_or ?_ | with_reducible refine k_ifE ?_ | with_reducible refine k_chain ?_ | with_reducible refine k_slice ?_ | with_reducible refine k_oN ?_ | with_reducible refine k_oS ?_ | with_reducible refine k_lc ?_
      | with_reducible refine k_bAnd ?_ | with_reducible refine k_bOr ?_ | with_reducible refine k_bNot ?_ | with_reducible refine k_yes ?_ | with_reducible refine k_onI ?_ | with_reducible refine k_onR ?_ | with_reducible refine k_onL1 ?_ | with_reducible refine k_onL2 ?_ | with_reducible refine k_itT ?_ | with_reducible refine k_itS ?_
      | with_reducible refine k_ends_rt ?_ | with_reducible refine k_ends_nx ?_ | with_reducible refine k_true ?_ | with_reducible refine k_false ?_ | with_reducible refine k_ntrue ?_ | with_reducible refine k_nfalse ?_
      | with_reducible refine k_addI ?_ | with_reducible refine k_subI ?_ | with_reducible refine k_intI ?_ | with_reducible refine k_ltI ?_ | with_reducible refine k_gtI ?_ | with_reducible refine k_leI ?_ | with_reducible refine k_geI ?_ | with_reducible refine k_eqI ?_ | with_reducible refine k_neI ?_ | with_reducible refine k_eqS ?_ | with_reducible refine k_neS ?_ | with_reducible refine k_negI ?_ | with_reducible refine k_notB ?_ | with_reducible refine k_maxI ?_ | with_reducible refine k_minI ?_ | with_reducible refine k_lenS ?_
      | ((with_reducible refine k_mulI ?e ?_); (case e => omega)) | ((with_reducible refine k_divI ?e ?e2 ?_); (case e => omega); (case e2 => omega)) | ((with_reducible refine k_modI ?e ?_); (case e => omega)) | ((with_reducible refine k_powI ?e ?_); (case e => decide))
      | ((with_reducible refine k_lst ?e ?_); (case e => first | decide | (simp; done) | (simp; omega))) | ((with_reducible refine k_tupD ?e ?_); (case e => first | decide | (simp; done)))
      | ((with_reducible refine' k_lenL ?e ?_); (case e => assumption)) | ((with_reducible refine' k_ixL ?e ?e2 ?_); (case e => assumption); (case e2 => first | assumption | rfl)) | ((with_reducible refine' k_ixT ?e2 ?_); (case e2 => first | assumption | rfl)) | ((with_reducible refine' k_itR ?e ?_); (case e => assumption)))
    refine k_allT e1 ?_ ?_
    · intro v hv
      have := al1.fn (f := fun _ => Pv.bl true)
      rw [this] at hv
      simp at hv
      exact hv.2.symm
    · have xtA := xt.trans xt1
      have epA := ep.ext xtA
      have esA := es.ext xtA
      repeat (first
        | with_reducible refine k_seq ?_ | ((with_reducible refine k_then_nx ?_); try dsimp only [put]) | with_reducible refine k_e2 ?_ | ((with_reducible refine' k_var ?e ?_); (case e => rfl)) | with_reducible refine k_const ?_
        | with_reducible refine k_set ?_ | with_reducible refine k_if ?_ | with_reducible refine k_ret ?_ | with_reducible refine k_eL ?_ | with_reducible refine k_aCons ?_ | with_reducible refine k_aNil ?_ | with_reducible refine k_bT ?_ | with_reducible refine k_onB ?_
        | with_reducible refine k_call1 ?_ | with_reducible refine k_call2 ?_ | with_reducible refine k_call3 ?_ | with_reducible refine k_expr ?_ | with_reducible refine k_for ?_ | with_reducible refine k_meth ?_ | with_reducible refine k_sub ?_ | with_reducible refine k_par ?_ | with_reducible refine k_tup ?_
        | with_reducible refine k_iAny ?_ | with_reducible refine k_iRng1 ?_ | with_reducible refine k_iRng2 ?_ | with_reducible refine k_iEnm ?_ | with_reducible refine k_then_rt ?_ | with_reducible refine k_then_bk ?_ | with_reducible refine k_then_ct ?_ | with_reducible refine k_skip ?_ | with_reducible refine k_break ?_ | with_reducible refine k_cont ?_ | with_reducible refine k_retN ?_
        | with_reducible refine k_e1 ?_ | with_reducible refine k_not ?_ | with_reducible refine k_and ?_ | with_reducible refine k_or ?_ | with_reducible refine k_ifE ?_ | with_reducible refine k_chain ?_ | with_reducible refine k_slice ?_ | with_reducible refine k_oN ?_ | with_reducible refine k_oS ?_ | with_reducible refine k_lc ?_
        | with_reducible refine k_bAnd ?_ | with_reducible refine k_bOr ?_ | with_reducible refine k_bNot ?_ | with_reducible refine k_yes ?_ | with_reducible refine k_onI ?_ | with_reducible refine k_onR ?_ | with_reducible refine k_onL1 ?_ | with_reducible refine k_onL2 ?_ | with_reducible refine k_itT ?_ | with_reducible refine k_itS ?_
        | with_reducible refine k_ends_rt ?_ | with_reducible refine k_ends_nx ?_ | with_reducible refine k_true ?_ | with_reducible refine k_false ?_ | with_reducible refine k_ntrue ?_ | with_reducible refine k_nfalse ?_
        | with_reducible refine k_addI ?_ | with_reducible refine k_subI ?_ | with_reducible refine k_intI ?_ | with_reducible refine k_ltI ?_ | with_reducible refine k_gtI ?_ | with_reducible refine k_leI ?_ | with_reducible refine k_geI ?_ | with_reducible refine k_eqI ?_ | with_reducible refine k_neI ?_ | with_reducible refine k_eqS ?_ | with_reducible refine k_neS ?_ | with_reducible refine k_negI ?_ | with_reducible refine k_notB ?_ | with_reducible refine k_maxI ?_ | with_reducible refine k_minI ?_ | with_reducible refine k_lenS ?_
        | ((with_reducible refine k_mulI ?e ?_); (case e => omega)) | ((with_reducible refine k_divI ?e ?e2 ?_); (case e => omega); (case e2 => omega)) | ((with_reducible refine k_modI ?e ?_); (case e => omega)) | ((with_reducible refine k_powI ?e ?_); (case e => decide))
        | ((with_reducible refine k_lst ?e ?_); (case e => first | decide | (simp; done) | (simp; omega))) | ((with_reducible refine k_tupD ?e ?_); (case e => first | decide | (simp; done)))
        | ((with_reducible refine' k_lenL ?e ?_); (case e => assumption)) | ((with_reducible refine' k_ixL ?e ?e2 ?_); (case e => assumption); (case e2 => first | assumption | rfl)) | ((with_reducible refine' k_ixT ?e2 ?_); (case e2 => first | assumption | rfl)) | ((with_reducible refine' k_itR ?e ?_); (case e => assumption)))
      refine k_sorted epA (by omega) ?_
      repeat (first
        | with_reducible refine k_seq ?_ | ((with_reducible refine k_then_nx ?_); try dsimp only [put]) | with_reducible refine k_e2 ?_ | ((with_reducible refine' k_var ?e ?_); (case e => rfl)) | with_reducible refine k_const ?_
        | with_reducible refine k_set ?_ | with_reducible refine k_if ?_ | with_reducible refine k_ret ?_ | with_reducible refine k_eL ?_ | with_reducible refine k_aCons ?_ | with_reducible refine k_aNil ?_ | with_reducible refine k_bT ?_ | with_reducible refine k_onB ?_
        | with_reducible refine k_call1 ?_ | with_reducible refine k_call2 ?_ | with_reducible refine k_call3 ?_ | with_reducible refine k_expr ?_ | with_reducible refine k_for ?_ | with_reducible refine k_meth ?_ | with_reducible refine k_sub ?_ | with_reducible refine k_par ?_ | with_reducible refine k_tup ?_
        | with_reducible refine k_iAny ?_ | with_reducible refine k_iRng1 ?_ | with_reducible refine k_iRng2 ?_ | with_reducible refine k_iEnm ?_ | with_reducible refine k_then_rt ?_ | with_reducible refine k_then_bk ?_ | with_reducible refine k_then_ct ?_ | with_reducible refine k_skip ?_ | with_reducible refine k_break ?_ | with_reducible refine k_cont ?_ | with_reducible refine k_retN ?_
        | with_reducible refine k_e1 ?_ | with_reducible refine k_not ?_ | with_reducible refine k_and ?_ | with_reducible refine k_or ?_ | with_reducible refine k_ifE ?_ | with_reducible refine k_chain ?_ | with_reducible refine k_slice ?_ | with_reducible refine k_oN ?_ | with_reducible refine k_oS ?_ | with_reducible refine k_lc ?_
        | with_reducible refine k_bAnd ?_ | with_reducible refine k_bOr ?_ | with_reducible refine k_bNot ?_ | with_reducible refine k_yes ?_ | with_reducible refine k_onI ?_ | with_reducible refine k_onR ?_ | with_reducible refine k_onL1 ?_ | with_reducible refine k_onL2 ?_ | with_reducible refine k_itT ?_ | with_reducible refine k_itS ?_
        | with_reducible refine k_ends_rt ?_ | with_reducible refine k_ends_nx ?_ | with_reducible refine k_true ?_ | with_reducible refine k_false ?_ | with_reducible refine k_ntrue ?_ | with_reducible refine k_nfalse ?_
        | with_reducible refine k_addI ?_ | with_reducible refine k_subI ?_ | with_reducible refine k_intI ?_ | with_reducible refine k_ltI ?_ | with_reducible refine k_gtI ?_ | with_reducible refine k_leI ?_ | with_reducible refine k_geI ?_ | with_reducible refine k_eqI ?_ | with_reducible refine k_neI ?_ | with_reducible refine k_eqS ?_ | with_reducible refine k_neS ?_ | with_reducible refine k_negI ?_ | with_reducible refine k_notB ?_ | with_reducible refine k_maxI ?_ | with_reducible refine k_minI ?_ | with_reducible refine k_lenS ?_
        | ((with_reducible refine k_mulI ?e ?_); (case e => omega)) | ((with_reducible refine k_divI ?e ?e2 ?_); (case e => omega); (case e2 => omega)) | ((with_reducible refine k_modI ?e ?_); (case e => omega)) | ((with_reducible refine k_powI ?e ?_); (case e => decide))
        | ((with_reducible refine k_lst ?e ?_); (case e => first | decide | (simp; done) | (simp; omega))) | ((with_reducible refine k_tupD ?e ?_); (case e => first | decide | (simp; done)))
        | ((with_reducible refine' k_lenL ?e ?_); (case e => assumption)) | ((with_reducible refine' k_ixL ?e ?e2 ?_); (case e => assumption); (case e2 => first | assumption | rfl)) | ((with_reducible refine' k_ixT ?e2 ?_); (case e2 => first | assumption | rfl)) | ((with_reducible refine' k_itR ?e ?_); (case e => assumption)))
      have lss : (ssort xs).length = xs.length := (ssort_perm xs).length_eq
      refine (some_of_sat 5 3 (ssort xs) _ g1.length lst_new (by omega) (by omega) (by omega)).then fun v g2 q => ?_
      obtain ⟨r, rfl, hr, llr, xt2⟩ := q
      obtain ⟨vr, er, alr⟩ := id llr
      try refine k_itR er ?_
      have xtB : Ext h g2 := (xtA.snoc).trans xt2
      have lr := alr.length
      have cl := cmb_sub_len 3 (ssort xs) (by omega) (by omega)
      refine st_forF vr.length (fun i σ g => (∃ o3 o4 o5, σ = [some (.ref p), some (.ref s), some (.ref g1.length), o3, o4, o5, none, none, none]) ∧ Ext g2 g ∧ ∀ y ∈ (cmb 3 (ssort xs)).take i, bad sets y = false)
        ⟨⟨none, none, none, rfl⟩, Ext.refl, by simp⟩ (by omega) fun i σ g hi w => ?_
      obtain ⟨⟨o3, o4, o5, rfl⟩, xt3, none'⟩ := w
      by_cases hlt : i < vr.length
      · obtain ⟨tr, et, q, eq0, bq, eq⟩ := alr.get (i := i) (List.getElem?_eq_getElem hlt)
        refine .inr ⟨hlt, .ref q, _, by rw [← eq0]; simp [itAt, xt3.lst er, hlt], rfl, ?_⟩
        have hmem : tr ∈ cmb 3 (ssort xs) := List.mem_of_getElem? et
        have ltr : tr.length = 3 := cmb_mem_len 3 _ _ hmem
        have eqg := eq.ext xt3
        have esg := esA.ext (Ext.refl.snoc.trans (xt2.trans xt3))
        obtain ⟨vsg, esg1, _⟩ := id esg
        repeat (first
          | with_reducible refine k_seq ?_ | ((with_reducible refine k_then_nx ?_); try dsimp only [put]) | with_reducible refine k_e2 ?_ | ((with_reducible refine' k_var ?e ?_); (case e => rfl)) | with_reducible refine k_const ?_
          | with_reducible refine k_set ?_ | with_reducible refine k_if ?_ | with_reducible refine k_ret ?_ | with_reducible refine k_eL ?_ | with_reducible refine k_aCons ?_ | with_reducible refine k_aNil ?_ | with_reducible refine k_bT ?_ | with_reducible refine k_onB ?_
          | with_reducible refine k_call1 ?_ | with_reducible refine k_call2 ?_ | with_reducible refine k_call3 ?_ | with_reducible refine k_expr ?_ | with_reducible refine k_for ?_ | with_reducible refine k_meth ?_ | with_reducible refine k_sub ?_ | with_reducible refine k_par ?_ | with_reducible refine k_tup ?_
          | with_reducible refine k_iAny ?_ | with_reducible refine k_iRng1 ?_ | with_reducible refine k_iRng2 ?_ | with_reducible refine k_iEnm ?_ | with_reducible refine k_then_rt ?_ | with_reducible refine k_then_bk ?_ | with_reducible refine k_then_ct ?_ | with_reducible refine k_skip ?_ | with_reducible refine k_break ?_ | with_reducible refine k_cont ?_ | with_reducible refine k_retN ?_
          | with_reducible refine k_e1 ?_ | with_reducible refine k_not ?_ | with_reducible refine k_and ?_ | with_reducible refine k_or ?_ | with_reducible refine k_ifE ?_ | with_reducible refine k_chain ?_ | with_reducible refine k_slice ?_ | with_reducible refine k_oN ?_ | with_reducible refine k_oS ?_ | with_reducible refine k_lc ?_
          | with_reducible refine k_bAnd ?_ | with_reducible refine k_bOr ?_ | with_reducible refine k_bNot ?_ | with_reducible refine k_yes ?_ | with_reducible refine k_onI ?_ | with_reducible refine k_onR ?_ | with_reducible refine k_onL1 ?_ | with_reducible refine k_onL2 ?_ | with_reducible refine k_itT ?_ | with_reducible refine k_itS ?_
          | with_reducible refine k_ends_rt ?_ | with_reducible refine k_ends_nx ?_ | with_reducible refine k_true ?_ | with_reducible refine k_false ?_ | with_reducible refine k_ntrue ?_ | with_reducible refine k_nfalse ?_
          | with_reducible refine k_addI ?_ | with_reducible refine k_subI ?_ | with_reducible refine k_intI ?_ | with_reducible refine k_ltI ?_ | with_reducible refine k_gtI ?_ | with_reducible refine k_leI ?_ | with_reducible refine k_geI ?_ | with_reducible refine k_eqI ?_ | with_reducible refine k_neI ?_ | with_reducible refine k_eqS ?_ | with_reducible refine k_neS ?_ | with_reducible refine k_negI ?_ | with_reducible refine k_notB ?_ | with_reducible refine k_maxI ?_ | with_reducible refine k_minI ?_ | with_reducible refine k_lenS ?_
          | ((with_reducible refine k_mulI ?e ?_); (case e => omega)) | ((with_reducible refine k_divI ?e ?e2 ?_); (case e => omega); (case e2 => omega)) | ((with_reducible refine k_modI ?e ?_); (case e => omega)) | ((with_reducible refine k_powI ?e ?_); (case e => decide))
          | ((with_reducible refine k_lst ?e ?_); (case e => first | decide | (simp; done) | (simp; omega))) | ((with_reducible refine k_tupD ?e ?_); (case e => first | decide | (simp; done)))
          | ((with_reducible refine' k_lenL ?e ?_); (case e => assumption)) | ((with_reducible refine' k_ixL ?e ?e2 ?_); (case e => assumption); (case e2 => first | assumption | rfl)) | ((with_reducible refine' k_ixT ?e2 ?_); (case e2 => first | assumption | rfl)) | ((with_reducible refine' k_itR ?e ?_); (case e => assumption)))
        try refine k_itR esg1 ?_
        refine map_lc (i := 6) (trc tr) esg (by omega) ?_ ?_
        · intro ys q1 g3 hy e1 xt4
          have eqg3 := eqg.ext xt4
          repeat (first
            | with_reducible refine k_seq ?_ | ((with_reducible refine k_then_nx ?_); try dsimp only [put]) | with_reducible refine k_e2 ?_ | ((with_reducible refine' k_var ?e ?_); (case e => rfl)) | with_reducible refine k_const ?_
            | with_reducible refine k_set ?_ | with_reducible refine k_if ?_ | with_reducible refine k_ret ?_ | with_reducible refine k_eL ?_ | with_reducible refine k_aCons ?_ | with_reducible refine k_aNil ?_ | with_reducible refine k_bT ?_ | with_reducible refine k_onB ?_
            | with_reducible refine k_call1 ?_ | with_reducible refine k_call2 ?_ | with_reducible refine k_call3 ?_ | with_reducible refine k_expr ?_ | with_reducible refine k_for ?_ | with_reducible refine k_meth ?_ | with_reducible refine k_sub ?_ | with_reducible refine k_par ?_ | with_reducible refine k_tup ?_
            | with_reducible refine k_iAny ?_ | with_reducible refine k_iRng1 ?_ | with_reducible refine k_iRng2 ?_ | with_reducible refine k_iEnm ?_ | with_reducible refine k_then_rt ?_ | with_reducible refine k_then_bk ?_ | with_reducible refine k_then_ct ?_ | with_reducible refine k_skip ?_ | with_reducible refine k_break ?_ | with_reducible refine k_cont ?_ | with_reducible refine k_retN ?_
            | with_reducible refine k_e1 ?_ | with_reducible refine k_not ?_ | with_reducible refine k_and ?_ | with_reducible refine k_or ?_ | with_reducible refine k_ifE ?_ | with_reducible refine k_chain ?_ | with_reducible refine k_slice ?_ | with_reducible refine k_oN ?_ | with_reducible refine k_oS ?_ | with_reducible refine k_lc ?_
            | with_reducible refine k_bAnd ?_ | with_reducible refine k_bOr ?_ | with_reducible refine k_bNot ?_ | with_reducible refine k_yes ?_ | with_reducible refine k_onI ?_ | with_reducible refine k_onR ?_ | with_reducible refine k_onL1 ?_ | with_reducible refine k_onL2 ?_ | with_reducible refine k_itT ?_ | with_reducible refine k_itS ?_
            | with_reducible refine k_ends_rt ?_ | with_reducible refine k_ends_nx ?_ | with_reducible refine k_true ?_ | with_reducible refine k_false ?_ | with_reducible refine k_ntrue ?_ | with_reducible refine k_nfalse ?_
            | with_reducible refine k_addI ?_ | with_reducible refine k_subI ?_ | with_reducible refine k_intI ?_ | with_reducible refine k_ltI ?_ | with_reducible refine k_gtI ?_ | with_reducible refine k_leI ?_ | with_reducible refine k_geI ?_ | with_reducible refine k_eqI ?_ | with_reducible refine k_neI ?_ | with_reducible refine k_eqS ?_ | with_reducible refine k_neS ?_ | with_reducible refine k_negI ?_ | with_reducible refine k_notB ?_ | with_reducible refine k_maxI ?_ | with_reducible refine k_minI ?_ | with_reducible refine k_lenS ?_
            | ((with_reducible refine k_mulI ?e ?_); (case e => omega)) | ((with_reducible refine k_divI ?e ?e2 ?_); (case e => omega); (case e2 => omega)) | ((with_reducible refine k_modI ?e ?_); (case e => omega)) | ((with_reducible refine k_powI ?e ?_); (case e => decide))
            | ((with_reducible refine k_lst ?e ?_); (case e => first | decide | (simp; done) | (simp; omega))) | ((with_reducible refine k_tupD ?e ?_); (case e => first | decide | (simp; done)))
            | ((with_reducible refine' k_lenL ?e ?_); (case e => assumption)) | ((with_reducible refine' k_ixL ?e ?e2 ?_); (case e => assumption); (case e2 => first | assumption | rfl)) | ((with_reducible refine' k_ixT ?e2 ?_); (case e2 => first | assumption | rfl)) | ((with_reducible refine' k_itR ?e ?_); (case e => assumption)))
          try refine k_itR eqg3 ?_
          refine trace_lc (i := 6) (j := 7) eqg3 (e1.ext xt4) (by omega) (by omega) (by simp [wipeP, put]) rfl fun g4 q2 hq2 xt5 e5 => ?_
          subst hq2
          exact ⟨_, rfl, Nat.le_refl _, e5, xt5⟩
        · intro g3 q3 hq3 xt4 ll3
          repeat (first
            | with_reducible refine k_seq ?_ | ((with_reducible refine k_then_nx ?_); try dsimp only [put]) | with_reducible refine k_e2 ?_ | ((with_reducible refine' k_var ?e ?_); (case e => rfl)) | with_reducible refine k_const ?_
            | with_reducible refine k_set ?_ | with_reducible refine k_if ?_ | with_reducible refine k_ret ?_ | with_reducible refine k_eL ?_ | with_reducible refine k_aCons ?_ | with_reducible refine k_aNil ?_ | with_reducible refine k_bT ?_ | with_reducible refine k_onB ?_
            | with_reducible refine k_call1 ?_ | with_reducible refine k_call2 ?_ | with_reducible refine k_call3 ?_ | with_reducible refine k_expr ?_ | with_reducible refine k_for ?_ | with_reducible refine k_meth ?_ | with_reducible refine k_sub ?_ | with_reducible refine k_par ?_ | with_reducible refine k_tup ?_
            | with_reducible refine k_iAny ?_ | with_reducible refine k_iRng1 ?_ | with_reducible refine k_iRng2 ?_ | with_reducible refine k_iEnm ?_ | with_reducible refine k_then_rt ?_ | with_reducible refine k_then_bk ?_ | with_reducible refine k_then_ct ?_ | with_reducible refine k_skip ?_ | with_reducible refine k_break ?_ | with_reducible refine k_cont ?_ | with_reducible refine k_retN ?_
            | with_reducible refine k_e1 ?_ | with_reducible refine k_not ?_ | with_reducible refine k_and ?_ | with_reducible refine k_or ?_ | with_reducible refine k_ifE ?_ | with_reducible refine k_chain ?_ | with_reducible refine k_slice ?_ | with_reducible refine k_oN ?_ | with_reducible refine k_oS ?_ | with_reducible refine k_lc ?_
            | with_reducible refine k_bAnd ?_ | with_reducible refine k_bOr ?_ | with_reducible refine k_bNot ?_ | with_reducible refine k_yes ?_ | with_reducible refine k_onI ?_ | with_reducible refine k_onR ?_ | with_reducible refine k_onL1 ?_ | with_reducible refine k_onL2 ?_ | with_reducible refine k_itT ?_ | with_reducible refine k_itS ?_
            | with_reducible refine k_ends_rt ?_ | with_reducible refine k_ends_nx ?_ | with_reducible refine k_true ?_ | with_reducible refine k_false ?_ | with_reducible refine k_ntrue ?_ | with_reducible refine k_nfalse ?_
            | with_reducible refine k_addI ?_ | with_reducible refine k_subI ?_ | with_reducible refine k_intI ?_ | with_reducible refine k_ltI ?_ | with_reducible refine k_gtI ?_ | with_reducible refine k_leI ?_ | with_reducible refine k_geI ?_ | with_reducible refine k_eqI ?_ | with_reducible refine k_neI ?_ | with_reducible refine k_eqS ?_ | with_reducible refine k_neS ?_ | with_reducible refine k_negI ?_ | with_reducible refine k_notB ?_ | with_reducible refine k_maxI ?_ | with_reducible refine k_minI ?_ | with_reducible refine k_lenS ?_
            | ((with_reducible refine k_mulI ?e ?_); (case e => omega)) | ((with_reducible refine k_divI ?e ?e2 ?_); (case e => omega); (case e2 => omega)) | ((with_reducible refine k_modI ?e ?_); (case e => omega)) | ((with_reducible refine k_powI ?e ?_); (case e => decide))
            | ((with_reducible refine k_lst ?e ?_); (case e => first | decide | (simp; done) | (simp; omega))) | ((with_reducible refine k_tupD ?e ?_); (case e => first | decide | (simp; done)))
            | ((with_reducible refine' k_lenL ?e ?_); (case e => assumption)) | ((with_reducible refine' k_ixL ?e ?e2 ?_); (case e => assumption); (case e2 => first | assumption | rfl)) | ((with_reducible refine' k_ixT ?e2 ?_); (case e2 => first | assumption | rfl)) | ((with_reducible refine' k_itR ?e ?_); (case e => assumption)))
          refine (some_of_sat 5 2 tr _ q (eqg.ext xt4) (by omega) (by omega) (by omega)).then fun v g4 q4 => ?_
          obtain ⟨r4, rfl, hr4, llr4, xt5⟩ := q4
          obtain ⟨vr4, er4, _⟩ := id llr4
          try refine k_itR er4 ?_
          have cl2 := cmb_sub_len 2 tr (by omega) (by omega)
          refine pairs_lc (i := 4) (j := 8) llr4 (ll3.ll.ext xt5) (by omega) (by omega) (by simp [wipeP, put]) rfl fun g5 q5 vs5 hq5 xt6 e5 l5 => ?_
          repeat (first
            | with_reducible refine k_seq ?_ | ((with_reducible refine k_then_nx ?_); try dsimp only [put]) | with_reducible refine k_e2 ?_ | ((with_reducible refine' k_var ?e ?_); (case e => rfl)) | with_reducible refine k_const ?_
            | with_reducible refine k_set ?_ | with_reducible refine k_if ?_ | with_reducible refine k_ret ?_ | with_reducible refine k_eL ?_ | with_reducible refine k_aCons ?_ | with_reducible refine k_aNil ?_ | with_reducible refine k_bT ?_ | with_reducible refine k_onB ?_
            | with_reducible refine k_call1 ?_ | with_reducible refine k_call2 ?_ | with_reducible refine k_call3 ?_ | with_reducible refine k_expr ?_ | with_reducible refine k_for ?_ | with_reducible refine k_meth ?_ | with_reducible refine k_sub ?_ | with_reducible refine k_par ?_ | with_reducible refine k_tup ?_
            | with_reducible refine k_iAny ?_ | with_reducible refine k_iRng1 ?_ | with_reducible refine k_iRng2 ?_ | with_reducible refine k_iEnm ?_ | with_reducible refine k_then_rt ?_ | with_reducible refine k_then_bk ?_ | with_reducible refine k_then_ct ?_ | with_reducible refine k_skip ?_ | with_reducible refine k_break ?_ | with_reducible refine k_cont ?_ | with_reducible refine k_retN ?_
            | with_reducible refine k_e1 ?_ | with_reducible refine k_not ?_ | with_reducible refine k_and ?_ | with_reducible refine k_or ?_ | with_reducible refine k_ifE ?_ | with_reducible refine k_chain ?_ | with_reducible refine k_slice ?_ | with_reducible refine k_oN ?_ | with_reducible refine k_oS ?_ | with_reducible refine k_lc ?_
            | with_reducible refine k_bAnd ?_ | with_reducible refine k_bOr ?_ | with_reducible refine k_bNot ?_ | with_reducible refine k_yes ?_ | with_reducible refine k_onI ?_ | with_reducible refine k_onR ?_ | with_reducible refine k_onL1 ?_ | with_reducible refine k_onL2 ?_ | with_reducible refine k_itT ?_ | with_reducible refine k_itS ?_
            | with_reducible refine k_ends_rt ?_ | with_reducible refine k_ends_nx ?_ | with_reducible refine k_true ?_ | with_reducible refine k_false ?_ | with_reducible refine k_ntrue ?_ | with_reducible refine k_nfalse ?_
            | with_reducible refine k_addI ?_ | with_reducible refine k_subI ?_ | with_reducible refine k_intI ?_ | with_reducible refine k_ltI ?_ | with_reducible refine k_gtI ?_ | with_reducible refine k_leI ?_ | with_reducible refine k_geI ?_ | with_reducible refine k_eqI ?_ | with_reducible refine k_neI ?_ | with_reducible refine k_eqS ?_ | with_reducible refine k_neS ?_ | with_reducible refine k_negI ?_ | with_reducible refine k_notB ?_ | with_reducible refine k_maxI ?_ | with_reducible refine k_minI ?_ | with_reducible refine k_lenS ?_
            | ((with_reducible refine k_mulI ?e ?_); (case e => omega)) | ((with_reducible refine k_divI ?e ?e2 ?_); (case e => omega); (case e2 => omega)) | ((with_reducible refine k_modI ?e ?_); (case e => omega)) | ((with_reducible refine k_powI ?e ?_); (case e => decide))
            | ((with_reducible refine k_lst ?e ?_); (case e => first | decide | (simp; done) | (simp; omega))) | ((with_reducible refine k_tupD ?e ?_); (case e => first | decide | (simp; done)))
            | ((with_reducible refine' k_lenL ?e ?_); (case e => assumption)) | ((with_reducible refine' k_ixL ?e ?e2 ?_); (case e => assumption); (case e2 => first | assumption | rfl)) | ((with_reducible refine' k_ixT ?e2 ?_); (case e2 => first | assumption | rfl)) | ((with_reducible refine' k_itR ?e ?_); (case e => assumption)))
          have eqg5 := (eqg.ext xt4).ext (xt5.trans xt6)
          refine k_notInLL (ll3.ll.ext (xt5.trans xt6)) eqg5 ?_
          repeat (first
            | with_reducible refine k_seq ?_ | ((with_reducible refine k_then_nx ?_); try dsimp only [put]) | with_reducible refine k_e2 ?_ | ((with_reducible refine' k_var ?e ?_); (case e => rfl)) | with_reducible refine k_const ?_
            | with_reducible refine k_set ?_ | with_reducible refine k_if ?_ | with_reducible refine k_ret ?_ | with_reducible refine k_eL ?_ | with_reducible refine k_aCons ?_ | with_reducible refine k_aNil ?_ | with_reducible refine k_bT ?_ | with_reducible refine k_onB ?_
            | with_reducible refine k_call1 ?_ | with_reducible refine k_call2 ?_ | with_reducible refine k_call3 ?_ | with_reducible refine k_expr ?_ | with_reducible refine k_for ?_ | with_reducible refine k_meth ?_ | with_reducible refine k_sub ?_ | with_reducible refine k_par ?_ | with_reducible refine k_tup ?_
            | with_reducible refine k_iAny ?_ | with_reducible refine k_iRng1 ?_ | with_reducible refine k_iRng2 ?_ | with_reducible refine k_iEnm ?_ | with_reducible refine k_then_rt ?_ | with_reducible refine k_then_bk ?_ | with_reducible refine k_then_ct ?_ | with_reducible refine k_skip ?_ | with_reducible refine k_break ?_ | with_reducible refine k_cont ?_ | with_reducible refine k_retN ?_
            | with_reducible refine k_e1 ?_ | with_reducible refine k_not ?_ | with_reducible refine k_and ?_ | with_reducible refine k_or ?_ | with_reducible refine k_ifE ?_ | with_reducible refine k_chain ?_ | with_reducible refine k_slice ?_ | with_reducible refine k_oN ?_ | with_reducible refine k_oS ?_ | with_reducible refine k_lc ?_
            | with_reducible refine k_bAnd ?_ | with_reducible refine k_bOr ?_ | with_reducible refine k_bNot ?_ | with_reducible refine k_yes ?_ | with_reducible refine k_onI ?_ | with_reducible refine k_onR ?_ | with_reducible refine k_onL1 ?_ | with_reducible refine k_onL2 ?_ | with_reducible refine k_itT ?_ | with_reducible refine k_itS ?_
            | with_reducible refine k_ends_rt ?_ | with_reducible refine k_ends_nx ?_ | with_reducible refine k_true ?_ | with_reducible refine k_false ?_ | with_reducible refine k_ntrue ?_ | with_reducible refine k_nfalse ?_
            | with_reducible refine k_addI ?_ | with_reducible refine k_subI ?_ | with_reducible refine k_intI ?_ | with_reducible refine k_ltI ?_ | with_reducible refine k_gtI ?_ | with_reducible refine k_leI ?_ | with_reducible refine k_geI ?_ | with_reducible refine k_eqI ?_ | with_reducible refine k_neI ?_ | with_reducible refine k_eqS ?_ | with_reducible refine k_neS ?_ | with_reducible refine k_negI ?_ | with_reducible refine k_notB ?_ | with_reducible refine k_maxI ?_ | with_reducible refine k_minI ?_ | with_reducible refine k_lenS ?_
            | ((with_reducible refine k_mulI ?e ?_); (case e => omega)) | ((with_reducible refine k_divI ?e ?e2 ?_); (case e => omega); (case e2 => omega)) | ((with_reducible refine k_modI ?e ?_); (case e => omega)) | ((with_reducible refine k_powI ?e ?_); (case e => decide))
            | ((with_reducible refine k_lst ?e ?_); (case e => first | decide | (simp; done) | (simp; omega))) | ((with_reducible refine k_tupD ?e ?_); (case e => first | decide | (simp; done)))
            | ((with_reducible refine' k_lenL ?e ?_); (case e => assumption)) | ((with_reducible refine' k_ixL ?e ?e2 ?_); (case e => assumption); (case e2 => first | assumption | rfl)) | ((with_reducible refine' k_ixT ?e2 ?_); (case e2 => first | assumption | rfl)) | ((with_reducible refine' k_itR ?e ?_); (case e => assumption)))
          have ebad : bad sets tr = (!decide (tr ∈ sets.map (trc tr)) || decide (((cmb 2 tr).filter fun ys => decide (ys ∈ sets.map (trc tr))).length < 2)) := rfl
          have goodT : bad sets tr = true → (doubtF (ssort xs) sets) = some tr := fun hb => find_take _ i tr et none' hb
          have lenB : h.length ≤ q := Nat.le_trans (Nat.le_trans xtA.len (by simp)) bq
          have xtF : Ext h g5 := xtB.trans (xt3.trans (xt4.trans (xt5.trans xt6)))
          refine k_decN (fun hno => ?_) fun hyes => ?_
          · repeat (first
              | with_reducible refine k_seq ?_ | ((with_reducible refine k_then_nx ?_); try dsimp only [put]) | with_reducible refine k_e2 ?_ | ((with_reducible refine' k_var ?e ?_); (case e => rfl)) | with_reducible refine k_const ?_
              | with_reducible refine k_set ?_ | with_reducible refine k_if ?_ | with_reducible refine k_ret ?_ | with_reducible refine k_eL ?_ | with_reducible refine k_aCons ?_ | with_reducible refine k_aNil ?_ | with_reducible refine k_bT ?_ | with_reducible refine k_onB ?_
              | with_reducible refine k_call1 ?_ | with_reducible refine k_call2 ?_ | with_reducible refine k_call3 ?_ | with_reducible refine k_expr ?_ | with_reducible refine k_for ?_ | with_reducible refine k_meth ?_ | with_reducible refine k_sub ?_ | with_reducible refine k_par ?_ | with_reducible refine k_tup ?_
              | with_reducible refine k_iAny ?_ | with_reducible refine k_iRng1 ?_ | with_reducible refine k_iRng2 ?_ | with_reducible refine k_iEnm ?_ | with_reducible refine k_then_rt ?_ | with_reducible refine k_then_bk ?_ | with_reducible refine k_then_ct ?_ | with_reducible refine k_skip ?_ | with_reducible refine k_break ?_ | with_reducible refine k_cont ?_ | with_reducible refine k_retN ?_
              | with_reducible refine k_e1 ?_ | with_reducible refine k_not ?_ | with_reducible refine k_and ?_ | with_reducible refine k_or ?_ | with_reducible refine k_ifE ?_ | with_reducible refine k_chain ?_ | with_reducible refine k_slice ?_ | with_reducible refine k_oN ?_ | with_reducible refine k_oS ?_ | with_reducible refine k_lc ?_
              | with_reducible refine k_bAnd ?_ | with_reducible refine k_bOr ?_ | with_reducible refine k_bNot ?_ | with_reducible refine k_yes ?_ | with_reducible refine k_onI ?_ | with_reducible refine k_onR ?_ | with_reducible refine k_onL1 ?_ | with_reducible refine k_onL2 ?_ | with_reducible refine k_itT ?_ | with_reducible refine k_itS ?_
              | with_reducible refine k_ends_rt ?_ | with_reducible refine k_ends_nx ?_ | with_reducible refine k_true ?_ | with_reducible refine k_false ?_ | with_reducible refine k_ntrue ?_ | with_reducible refine k_nfalse ?_
              | with_reducible refine k_addI ?_ | with_reducible refine k_subI ?_ | with_reducible refine k_intI ?_ | with_reducible refine k_ltI ?_ | with_reducible refine k_gtI ?_ | with_reducible refine k_leI ?_ | with_reducible refine k_geI ?_ | with_reducible refine k_eqI ?_ | with_reducible refine k_neI ?_ | with_reducible refine k_eqS ?_ | with_reducible refine k_neS ?_ | with_reducible refine k_negI ?_ | with_reducible refine k_notB ?_ | with_reducible refine k_maxI ?_ | with_reducible refine k_minI ?_ | with_reducible refine k_lenS ?_
              | ((with_reducible refine k_mulI ?e ?_); (case e => omega)) | ((with_reducible refine k_divI ?e ?e2 ?_); (case e => omega); (case e2 => omega)) | ((with_reducible refine k_modI ?e ?_); (case e => omega)) | ((with_reducible refine k_powI ?e ?_); (case e => decide))
              | ((with_reducible refine k_lst ?e ?_); (case e => first | decide | (simp; done) | (simp; omega))) | ((with_reducible refine k_tupD ?e ?_); (case e => first | decide | (simp; done)))
              | ((with_reducible refine' k_lenL ?e ?_); (case e => assumption)) | ((with_reducible refine' k_ixL ?e ?e2 ?_); (case e => assumption); (case e2 => first | assumption | rfl)) | ((with_reducible refine' k_ixT ?e2 ?_); (case e2 => first | assumption | rfl)) | ((with_reducible refine' k_itR ?e ?_); (case e => assumption)))
            refine ⟨?_, xtF⟩
            rw [goodT (by rw [ebad, decide_eq_false hno]; rfl)]
            exact ⟨q, rfl, lenB, eqg5⟩
          · repeat (first
              | with_reducible refine k_seq ?_ | ((with_reducible refine k_then_nx ?_); try dsimp only [put]) | with_reducible refine k_e2 ?_ | ((with_reducible refine' k_var ?e ?_); (case e => rfl)) | with_reducible refine k_const ?_
              | with_reducible refine k_set ?_ | with_reducible refine k_if ?_ | with_reducible refine k_ret ?_ | with_reducible refine k_eL ?_ | with_reducible refine k_aCons ?_ | with_reducible refine k_aNil ?_ | with_reducible refine k_bT ?_ | with_reducible refine k_onB ?_
              | with_reducible refine k_call1 ?_ | with_reducible refine k_call2 ?_ | with_reducible refine k_call3 ?_ | with_reducible refine k_expr ?_ | with_reducible refine k_for ?_ | with_reducible refine k_meth ?_ | with_reducible refine k_sub ?_ | with_reducible refine k_par ?_ | with_reducible refine k_tup ?_
              | with_reducible refine k_iAny ?_ | with_reducible refine k_iRng1 ?_ | with_reducible refine k_iRng2 ?_ | with_reducible refine k_iEnm ?_ | with_reducible refine k_then_rt ?_ | with_reducible refine k_then_bk ?_ | with_reducible refine k_then_ct ?_ | with_reducible refine k_skip ?_ | with_reducible refine k_break ?_ | with_reducible refine k_cont ?_ | with_reducible refine k_retN ?_
              | with_reducible refine k_e1 ?_ | with_reducible refine k_not ?_ | with_reducible refine k_and ?_ | with_reducible refine k_or ?_ | with_reducible refine k_ifE ?_ | with_reducible refine k_chain ?_ | with_reducible refine k_slice ?_ | with_reducible refine k_oN ?_ | with_reducible refine k_oS ?_ | with_reducible refine k_lc ?_
              | with_reducible refine k_bAnd ?_ | with_reducible refine k_bOr ?_ | with_reducible refine k_bNot ?_ | with_reducible refine k_yes ?_ | with_reducible refine k_onI ?_ | with_reducible refine k_onR ?_ | with_reducible refine k_onL1 ?_ | with_reducible refine k_onL2 ?_ | with_reducible refine k_itT ?_ | with_reducible refine k_itS ?_
              | with_reducible refine k_ends_rt ?_ | with_reducible refine k_ends_nx ?_ | with_reducible refine k_true ?_ | with_reducible refine k_false ?_ | with_reducible refine k_ntrue ?_ | with_reducible refine k_nfalse ?_
              | with_reducible refine k_addI ?_ | with_reducible refine k_subI ?_ | with_reducible refine k_intI ?_ | with_reducible refine k_ltI ?_ | with_reducible refine k_gtI ?_ | with_reducible refine k_leI ?_ | with_reducible refine k_geI ?_ | with_reducible refine k_eqI ?_ | with_reducible refine k_neI ?_ | with_reducible refine k_eqS ?_ | with_reducible refine k_neS ?_ | with_reducible refine k_negI ?_ | with_reducible refine k_notB ?_ | with_reducible refine k_maxI ?_ | with_reducible refine k_minI ?_ | with_reducible refine k_lenS ?_
              | ((with_reducible refine k_mulI ?e ?_); (case e => omega)) | ((with_reducible refine k_divI ?e ?e2 ?_); (case e => omega); (case e2 => omega)) | ((with_reducible refine k_modI ?e ?_); (case e => omega)) | ((with_reducible refine k_powI ?e ?_); (case e => decide))
              | ((with_reducible refine k_lst ?e ?_); (case e => first | decide | (simp; done) | (simp; omega))) | ((with_reducible refine k_tupD ?e ?_); (case e => first | decide | (simp; done)))
              | ((with_reducible refine' k_lenL ?e ?_); (case e => assumption)) | ((with_reducible refine' k_ixL ?e ?e2 ?_); (case e => assumption); (case e2 => first | assumption | rfl)) | ((with_reducible refine' k_ixT ?e2 ?_); (case e2 => first | assumption | rfl)) | ((with_reducible refine' k_itR ?e ?_); (case e => assumption)))
            try refine k_lenL e5 ?_
            repeat (first
              | with_reducible refine k_seq ?_ | ((with_reducible refine k_then_nx ?_); try dsimp only [put]) | with_reducible refine k_e2 ?_ | ((with_reducible refine' k_var ?e ?_); (case e => rfl)) | with_reducible refine k_const ?_
              | with_reducible refine k_set ?_ | with_reducible refine k_if ?_ | with_reducible refine k_ret ?_ | with_reducible refine k_eL ?_ | with_reducible refine k_aCons ?_ | with_reducible refine k_aNil ?_ | with_reducible refine k_bT ?_ | with_reducible refine k_onB ?_
              | with_reducible refine k_call1 ?_ | with_reducible refine k_call2 ?_ | with_reducible refine k_call3 ?_ | with_reducible refine k_expr ?_ | with_reducible refine k_for ?_ | with_reducible refine k_meth ?_ | with_reducible refine k_sub ?_ | with_reducible refine k_par ?_ | with_reducible refine k_tup ?_
              | with_reducible refine k_iAny ?_ | with_reducible refine k_iRng1 ?_ | with_reducible refine k_iRng2 ?_ | with_reducible refine k_iEnm ?_ | with_reducible refine k_then_rt ?_ | with_reducible refine k_then_bk ?_ | with_reducible refine k_then_ct ?_ | with_reducible refine k_skip ?_ | with_reducible refine k_break ?_ | with_reducible refine k_cont ?_ | with_reducible refine k_retN ?_
              | with_reducible refine k_e1 ?_ | with_reducible refine k_not ?_ | with_reducible refine k_and ?_ | with_reducible refine k_or ?_ | with_reducible refine k_ifE ?_ | with_reducible refine k_chain ?_ | with_reducible refine k_slice ?_ | with_reducible refine k_oN ?_ | with_reducible refine k_oS ?_ | with_reducible refine k_lc ?_
              | with_reducible refine k_bAnd ?_ | with_reducible refine k_bOr ?_ | with_reducible refine k_bNot ?_ | with_reducible refine k_yes ?_ | with_reducible refine k_onI ?_ | with_reducible refine k_onR ?_ | with_reducible refine k_onL1 ?_ | with_reducible refine k_onL2 ?_ | with_reducible refine k_itT ?_ | with_reducible refine k_itS ?_
              | with_reducible refine k_ends_rt ?_ | with_reducible refine k_ends_nx ?_ | with_reducible refine k_true ?_ | with_reducible refine k_false ?_ | with_reducible refine k_ntrue ?_ | with_reducible refine k_nfalse ?_
              | with_reducible refine k_addI ?_ | with_reducible refine k_subI ?_ | with_reducible refine k_intI ?_ | with_reducible refine k_ltI ?_ | with_reducible refine k_gtI ?_ | with_reducible refine k_leI ?_ | with_reducible refine k_geI ?_ | with_reducible refine k_eqI ?_ | with_reducible refine k_neI ?_ | with_reducible refine k_eqS ?_ | with_reducible refine k_neS ?_ | with_reducible refine k_negI ?_ | with_reducible refine k_notB ?_ | with_reducible refine k_maxI ?_ | with_reducible refine k_minI ?_ | with_reducible refine k_lenS ?_
              | ((with_reducible refine k_mulI ?e ?_); (case e => omega)) | ((with_reducible refine k_divI ?e ?e2 ?_); (case e => omega); (case e2 => omega)) | ((with_reducible refine k_modI ?e ?_); (case e => omega)) | ((with_reducible refine k_powI ?e ?_); (case e => decide))
              | ((with_reducible refine k_lst ?e ?_); (case e => first | decide | (simp; done) | (simp; omega))) | ((with_reducible refine k_tupD ?e ?_); (case e => first | decide | (simp; done)))
              | ((with_reducible refine' k_lenL ?e ?_); (case e => assumption)) | ((with_reducible refine' k_ixL ?e ?e2 ?_); (case e => assumption); (case e2 => first | assumption | rfl)) | ((with_reducible refine' k_ixT ?e2 ?_); (case e2 => first | assumption | rfl)) | ((with_reducible refine' k_itR ?e ?_); (case e => assumption)))
            refine k_dec (fun hlt2 => ?_) fun hge => ?_
            · repeat (first
                | with_reducible refine k_seq ?_ | ((with_reducible refine k_then_nx ?_); try dsimp only [put]) | with_reducible refine k_e2 ?_ | ((with_reducible refine' k_var ?e ?_); (case e => rfl)) | with_reducible refine k_const ?_
                | with_reducible refine k_set ?_ | with_reducible refine k_if ?_ | with_reducible refine k_ret ?_ | with_reducible refine k_eL ?_ | with_reducible refine k_aCons ?_ | with_reducible refine k_aNil ?_ | with_reducible refine k_bT ?_ | with_reducible refine k_onB ?_
                | with_reducible refine k_call1 ?_ | with_reducible refine k_call2 ?_ | with_reducible refine k_call3 ?_ | with_reducible refine k_expr ?_ | with_reducible refine k_for ?_ | with_reducible refine k_meth ?_ | with_reducible refine k_sub ?_ | with_reducible refine k_par ?_ | with_reducible refine k_tup ?_
                | with_reducible refine k_iAny ?_ | with_reducible refine k_iRng1 ?_ | with_reducible refine k_iRng2 ?_ | with_reducible refine k_iEnm ?_ | with_reducible refine k_then_rt ?_ | with_reducible refine k_then_bk ?_ | with_reducible refine k_then_ct ?_ | with_reducible refine k_skip ?_ | with_reducible refine k_break ?_ | with_reducible refine k_cont ?_ | with_reducible refine k_retN ?_
                | with_reducible refine k_e1 ?_ | with_reducible refine k_not ?_ | with_reducible refine k_and ?_ | with_reducible refine k_or ?_ | with_reducible refine k_ifE ?_ | with_reducible refine k_chain ?_ | with_reducible refine k_slice ?_ | with_reducible refine k_oN ?_ | with_reducible refine k_oS ?_ | with_reducible refine k_lc ?_
                | with_reducible refine k_bAnd ?_ | with_reducible refine k_bOr ?_ | with_reducible refine k_bNot ?_ | with_reducible refine k_yes ?_ | with_reducible refine k_onI ?_ | with_reducible refine k_onR ?_ | with_reducible refine k_onL1 ?_ | with_reducible refine k_onL2 ?_ | with_reducible refine k_itT ?_ | with_reducible refine k_itS ?_
                | with_reducible refine k_ends_rt ?_ | with_reducible refine k_ends_nx ?_ | with_reducible refine k_true ?_ | with_reducible refine k_false ?_ | with_reducible refine k_ntrue ?_ | with_reducible refine k_nfalse ?_
                | with_reducible refine k_addI ?_ | with_reducible refine k_subI ?_ | with_reducible refine k_intI ?_ | with_reducible refine k_ltI ?_ | with_reducible refine k_gtI ?_ | with_reducible refine k_leI ?_ | with_reducible refine k_geI ?_ | with_reducible refine k_eqI ?_ | with_reducible refine k_neI ?_ | with_reducible refine k_eqS ?_ | with_reducible refine k_neS ?_ | with_reducible refine k_negI ?_ | with_reducible refine k_notB ?_ | with_reducible refine k_maxI ?_ | with_reducible refine k_minI ?_ | with_reducible refine k_lenS ?_
                | ((with_reducible refine k_mulI ?e ?_); (case e => omega)) | ((with_reducible refine k_divI ?e ?e2 ?_); (case e => omega); (case e2 => omega)) | ((with_reducible refine k_modI ?e ?_); (case e => omega)) | ((with_reducible refine k_powI ?e ?_); (case e => decide))
                | ((with_reducible refine k_lst ?e ?_); (case e => first | decide | (simp; done) | (simp; omega))) | ((with_reducible refine k_tupD ?e ?_); (case e => first | decide | (simp; done)))
                | ((with_reducible refine' k_lenL ?e ?_); (case e => assumption)) | ((with_reducible refine' k_ixL ?e ?e2 ?_); (case e => assumption); (case e2 => first | assumption | rfl)) | ((with_reducible refine' k_ixT ?e2 ?_); (case e2 => first | assumption | rfl)) | ((with_reducible refine' k_itR ?e ?_); (case e => assumption)))
              refine ⟨?_, xtF⟩
              rw [goodT (by rw [ebad, ← l5, decide_eq_true (show vs5.length < 2 by omega), Bool.or_true])]
              exact ⟨q, rfl, lenB, eqg5⟩
            · repeat (first
                | with_reducible refine k_seq ?_ | ((with_reducible refine k_then_nx ?_); try dsimp only [put]) | with_reducible refine k_e2 ?_ | ((with_reducible refine' k_var ?e ?_); (case e => rfl)) | with_reducible refine k_const ?_
                | with_reducible refine k_set ?_ | with_reducible refine k_if ?_ | with_reducible refine k_ret ?_ | with_reducible refine k_eL ?_ | with_reducible refine k_aCons ?_ | with_reducible refine k_aNil ?_ | with_reducible refine k_bT ?_ | with_reducible refine k_onB ?_
                | with_reducible refine k_call1 ?_ | with_reducible refine k_call2 ?_ | with_reducible refine k_call3 ?_ | with_reducible refine k_expr ?_ | with_reducible refine k_for ?_ | with_reducible refine k_meth ?_ | with_reducible refine k_sub ?_ | with_reducible refine k_par ?_ | with_reducible refine k_tup ?_
                | with_reducible refine k_iAny ?_ | with_reducible refine k_iRng1 ?_ | with_reducible refine k_iRng2 ?_ | with_reducible refine k_iEnm ?_ | with_reducible refine k_then_rt ?_ | with_reducible refine k_then_bk ?_ | with_reducible refine k_then_ct ?_ | with_reducible refine k_skip ?_ | with_reducible refine k_break ?_ | with_reducible refine k_cont ?_ | with_reducible refine k_retN ?_
                | with_reducible refine k_e1 ?_ | with_reducible refine k_not ?_ | with_reducible refine k_and ?_ | with_reducible refine k_or ?_ | with_reducible refine k_ifE ?_ | with_reducible refine k_chain ?_ | with_reducible refine k_slice ?_ | with_reducible refine k_oN ?_ | with_reducible refine k_oS ?_ | with_reducible refine k_lc ?_
                | with_reducible refine k_bAnd ?_ | with_reducible refine k_bOr ?_ | with_reducible refine k_bNot ?_ | with_reducible refine k_yes ?_ | with_reducible refine k_onI ?_ | with_reducible refine k_onR ?_ | with_reducible refine k_onL1 ?_ | with_reducible refine k_onL2 ?_ | with_reducible refine k_itT ?_ | with_reducible refine k_itS ?_
                | with_reducible refine k_ends_rt ?_ | with_reducible refine k_ends_nx ?_ | with_reducible refine k_true ?_ | with_reducible refine k_false ?_ | with_reducible refine k_ntrue ?_ | with_reducible refine k_nfalse ?_
                | with_reducible refine k_addI ?_ | with_reducible refine k_subI ?_ | with_reducible refine k_intI ?_ | with_reducible refine k_ltI ?_ | with_reducible refine k_gtI ?_ | with_reducible refine k_leI ?_ | with_reducible refine k_geI ?_ | with_reducible refine k_eqI ?_ | with_reducible refine k_neI ?_ | with_reducible refine k_eqS ?_ | with_reducible refine k_neS ?_ | with_reducible refine k_negI ?_ | with_reducible refine k_notB ?_ | with_reducible refine k_maxI ?_ | with_reducible refine k_minI ?_ | with_reducible refine k_lenS ?_
                | ((with_reducible refine k_mulI ?e ?_); (case e => omega)) | ((with_reducible refine k_divI ?e ?e2 ?_); (case e => omega); (case e2 => omega)) | ((with_reducible refine k_modI ?e ?_); (case e => omega)) | ((with_reducible refine k_powI ?e ?_); (case e => decide))
                | ((with_reducible refine k_lst ?e ?_); (case e => first | decide | (simp; done) | (simp; omega))) | ((with_reducible refine k_tupD ?e ?_); (case e => first | decide | (simp; done)))
                | ((with_reducible refine' k_lenL ?e ?_); (case e => assumption)) | ((with_reducible refine' k_ixL ?e ?e2 ?_); (case e => assumption); (case e2 => first | assumption | rfl)) | ((with_reducible refine' k_ixT ?e2 ?_); (case e2 => first | assumption | rfl)) | ((with_reducible refine' k_itR ?e ?_); (case e => assumption)))
              refine ⟨⟨_, _, _, rfl⟩, xt3.trans (xt4.trans (xt5.trans xt6)), fun y hy => ?_⟩
              rw [List.take_add_one, et] at hy
              rcases List.mem_append.mp hy with hy | hy
              · exact none' y hy
              · simp at hy
                subst hy
                rw [ebad, ← l5, decide_eq_true hyes, decide_eq_false (show ¬ vs5.length < 2 by omega)]
                rfl
      · have : i = vr.length := by omega
        subst this
        refine .inl ⟨rfl, by simp [itAt, xt3.lst er], ?_⟩
        repeat (first
          | with_reducible refine k_seq ?_ | ((with_reducible refine k_then_nx ?_); try dsimp only [put]) | with_reducible refine k_e2 ?_ | ((with_reducible refine' k_var ?e ?_); (case e => rfl)) | with_reducible refine k_const ?_
          | with_reducible refine k_set ?_ | with_reducible refine k_if ?_ | with_reducible refine k_ret ?_ | with_reducible refine k_eL ?_ | with_reducible refine k_aCons ?_ | with_reducible refine k_aNil ?_ | with_reducible refine k_bT ?_ | with_reducible refine k_onB ?_
          | with_reducible refine k_call1 ?_ | with_reducible refine k_call2 ?_ | with_reducible refine k_call3 ?_ | with_reducible refine k_expr ?_ | with_reducible refine k_for ?_ | with_reducible refine k_meth ?_ | with_reducible refine k_sub ?_ | with_reducible refine k_par ?_ | with_reducible refine k_tup ?_
          | with_reducible refine k_iAny ?_ | with_reducible refine k_iRng1 ?_ | with_reducible refine k_iRng2 ?_ | with_reducible refine k_iEnm ?_ | with_reducible refine k_then_rt ?_ | with_reducible refine k_then_bk ?_ | with_reducible refine k_then_ct ?_ | with_reducible refine k_skip ?_ | with_reducible refine k_break ?_ | with_reducible refine k_cont ?_ | with_reducible refine k_retN ?_
          | with_reducible refine k_e1 ?_ | with_reducible refine k_not ?_ | with_reducible refine k_and ?_ | with_reducible refine k_or ?_ | with_reducible refine k_ifE ?_ | with_reducible refine k_chain ?_ | with_reducible refine k_slice ?_ | with_reducible refine k_oN ?_ | with_reducible refine k_oS ?_ | with_reducible refine k_lc ?_
          | with_reducible refine k_bAnd ?_ | with_reducible refine k_bOr ?_ | with_reducible refine k_bNot ?_ | with_reducible refine k_yes ?_ | with_reducible refine k_onI ?_ | with_reducible refine k_onR ?_ | with_reducible refine k_onL1 ?_ | with_reducible refine k_onL2 ?_ | with_reducible refine k_itT ?_ | with_reducible refine k_itS ?_
          | with_reducible refine k_ends_rt ?_ | with_reducible refine k_ends_nx ?_ | with_reducible refine k_true ?_ | with_reducible refine k_false ?_ | with_reducible refine k_ntrue ?_ | with_reducible refine k_nfalse ?_
          | with_reducible refine k_addI ?_ | with_reducible refine k_subI ?_ | with_reducible refine k_intI ?_ | with_reducible refine k_ltI ?_ | with_reducible refine k_gtI ?_ | with_reducible refine k_leI ?_ | with_reducible refine k_geI ?_ | with_reducible refine k_eqI ?_ | with_reducible refine k_neI ?_ | with_reducible refine k_eqS ?_ | with_reducible refine k_neS ?_ | with_reducible refine k_negI ?_ | with_reducible refine k_notB ?_ | with_reducible refine k_maxI ?_ | with_reducible refine k_minI ?_ | with_reducible refine k_lenS ?_
          | ((with_reducible refine k_mulI ?e ?_); (case e => omega)) | ((with_reducible refine k_divI ?e ?e2 ?_); (case e => omega); (case e2 => omega)) | ((with_reducible refine k_modI ?e ?_); (case e => omega)) | ((with_reducible refine k_powI ?e ?_); (case e => decide))
          | ((with_reducible refine k_lst ?e ?_); (case e => first | decide | (simp; done) | (simp; omega))) | ((with_reducible refine k_tupD ?e ?_); (case e => first | decide | (simp; done)))
          | ((with_reducible refine' k_lenL ?e ?_); (case e => assumption)) | ((with_reducible refine' k_ixL ?e ?e2 ?_); (case e => assumption); (case e2 => first | assumption | rfl)) | ((with_reducible refine' k_ixT ?e2 ?_); (case e2 => first | assumption | rfl)) | ((with_reducible refine' k_itR ?e ?_); (case e => assumption)))
        refine ⟨?_, xtB.trans xt3⟩
        have : doubtF (ssort xs) sets = none := by
          unfold doubtF
          rw [List.find?_eq_none]
          intro y hy
          rw [lr, List.take_length] at none'
          simp [none' y hy]
        rw [this]
        rfl
end Pg
namespace Pg
open PySem PySem.Spec L2 Mi
theorem cmb_sub : ∀ (m : Nat) (xs ys : List Str), ys ∈ cmb m xs → ys.Sublist xs := by
  intro m
  induction m with
  | zero =>
    intro xs ys h
    simp [cmb] at h
    rw [h]; exact List.nil_sublist _
  | succ m ih =>
    intro xs ys h
    simp only [cmb, List.mem_flatMap, List.mem_map, List.mem_range] at h
    obtain ⟨i, hi, zs, hz, rfl⟩ := h
    have h1 := ih _ _ hz
    have h2 : xs.getD i "" :: xs.drop (i + 1) = xs.drop i := by
      rw [List.drop_eq_getElem_cons hi]
      simp [hi]
    exact ((List.cons_sublist_cons.mpr h1).trans (by rw [h2]; exact List.Sublist.refl _)).trans (List.drop_sublist _ _)
theorem trc_sorted {xs tr one : List Str} (h : tr ∈ cmb 3 (ssort xs)) : ssort (trc tr one) = trc tr one := by
  have h1 : tr.Pairwise (fun a b => leS a b = true) := (ssort_pair xs).sublist (cmb_sub _ _ _ h)
  have h2 : (trc tr one).Pairwise (fun a b => leS a b = true) := h1.sublist List.filter_sublist
  exact sorted_unique (ssort_perm _) (ssort_pair _) h2
theorem law_doubt_sat {h : Hh} {p s : Nat} {xs : List Str} {sets : List (List Str)} (ep : LS h p xs) (es : LL h s sets) (h3 : xs.length ≤ 30) (hs : sets.length ≤ 1000) :
    Sat (d__law_doubt [.ref p, .ref s] h) (fun v h' => Told h.length h' (doubtF (ssort xs) sets) v ∧ Ext h h') NoX := by
  unfold d__law_doubt
  refine st_fn' (σ0 := [some (.ref p), some (.ref s), none, none, none, none, none, none]) rfl ?_
  repeat (first
    | with_reducible refine k_seq ?_ | ((with_reducible refine k_then_nx ?_); try dsimp only [put]) | with_reducible refine k_e2 ?_ | ((with_reducible refine' k_var ?e ?_); (case e => rfl)) | with_reducible refine k_const ?_
    | with_reducible refine k_set ?_ | with_reducible refine k_if ?_ | with_reducible refine k_ret ?_ | with_reducible refine k_eL ?_ | with_reducible refine k_aCons ?_ | with_reducible refine k_aNil ?_ | with_reducible refine k_bT ?_ | with_reducible refine k_onB ?_
    | with_reducible refine k_call1 ?_ | with_reducible refine k_call2 ?_ | with_reducible refine k_call3 ?_ | with_reducible refine k_expr ?_ | with_reducible refine k_for ?_ | with_reducible refine k_meth ?_ | with_reducible refine k_sub ?_ | with_reducible refine k_par ?_ | with_reducible refine k_tup ?_
    | with_reducible refine k_iAny ?_ | with_reducible refine k_iRng1 ?_ | with_reducible refine k_iRng2 ?_ | with_reducible refine k_iEnm ?_ | with_reducible refine k_then_rt ?_ | with_reducible refine k_then_bk ?_ | with_reducible refine k_then_ct ?_ | with_reducible refine k_skip ?_ | with_reducible refine k_break ?_ | with_reducible refine k_cont ?_ | with_reducible refine k_retN ?_
    | with_reducible refine k_e1 ?_ | with_reducible refine k_not ?_ | with_reducible refine k_and ?_ | with_reducible refine k_or ?_ | with_reducible refine k_ifE ?_ | with_reducible refine k_chain ?_ | with_reducible refine k_slice ?_ | with_reducible refine k_oN ?_ | with_reducible refine k_oS ?_ | with_reducible refine k_lc ?_
    | with_reducible refine k_bAnd ?_ | with_reducible refine k_bOr ?_ | with_reducible refine k_bNot ?_ | with_reducible refine k_yes ?_ | with_reducible refine k_onI ?_ | with_reducible refine k_onR ?_ | with_reducible refine k_onL1 ?_ | with_reducible refine k_onL2 ?_ | with_reducible refine k_itT ?_ | with_reducible refine k_itS ?_
    | with_reducible refine k_ends_rt ?_ | with_reducible refine k_ends_nx ?_ | with_reducible refine k_true ?_ | with_reducible refine k_false ?_ | with_reducible refine k_ntrue ?_ | with_reducible refine k_nfalse ?_
    | with_reducible refine k_addI ?_ | with_reducible refine k_subI ?_ | with_reducible refine k_intI ?_ | with_reducible refine k_ltI ?_ | with_reducible refine k_gtI ?_ | with_reducible refine k_leI ?_ | with_reducible refine k_geI ?_ | with_reducible refine k_eqI ?_ | with_reducible refine k_neI ?_ | with_reducible refine k_eqS ?_ | with_reducible refine k_neS ?_ | with_reducible refine k_negI ?_ | with_reducible refine k_notB ?_ | with_reducible refine k_maxI ?_ | with_reducible refine k_minI ?_ | with_reducible refine k_lenS ?_
    | ((with_reducible refine k_mulI ?e ?_); (case e => omega)) | ((with_reducible refine k_divI ?e ?e2 ?_); (case e => omega); (case e2 => omega)) | ((with_reducible refine k_modI ?e ?_); (case e => omega)) | ((with_reducible refine k_powI ?e ?_); (case e => decide))
    | ((with_reducible refine k_lst ?e ?_); (case e => first | decide | (simp; done) | (simp; omega))) | ((with_reducible refine k_tupD ?e ?_); (case e => first | decide | (simp; done)))
    | ((with_reducible refine' k_lenL ?e ?_); (case e => assumption)) | ((with_reducible refine' k_ixL ?e ?e2 ?_); (case e => assumption); (case e2 => first | assumption | rfl)) | ((with_reducible refine' k_ixT ?e2 ?_); (case e2 => first | assumption | rfl)) | ((with_reducible refine' k_itR ?e ?_); (case e => assumption)))
  refine k_sorted ep (by omega) ?_
  repeat (first
    | with_reducible refine k_seq ?_ | ((with_reducible refine k_then_nx ?_); try dsimp only [put]) | with_reducible refine k_e2 ?_ | ((with_reducible refine' k_var ?e ?_); (case e => rfl)) | with_reducible refine k_const ?_
    | with_reducible refine k_set ?_ | with_reducible refine k_if ?_ | with_reducible refine k_ret ?_ | with_reducible refine k_eL ?_ | with_reducible refine k_aCons ?_ | with_reducible refine k_aNil ?_ | with_reducible refine k_bT ?_ | with_reducible refine k_onB ?_
    | with_reducible refine k_call1 ?_ | with_reducible refine k_call2 ?_ | with_reducible refine k_call3 ?_ | with_reducible refine k_expr ?_ | with_reducible refine k_for ?_ | with_reducible refine k_meth ?_ | with_reducible refine k_sub ?_ | with_reducible refine k_par ?_ | with_reducible refine k_tup ?_
    | with_reducible refine k_iAny ?_ | with_reducible refine k_iRng1 ?_ | with_reducible refine k_iRng2 ?_ | with_reducible refine k_iEnm ?_ | with_reducible refine k_then_rt ?_ | with_reducible refine k_then_bk ?_ | with_reducible refine k_then_ct ?_ | with_reducible refine k_skip ?_ | with_reducible refine k_break ?_ | with_reducible refine k_cont ?_ | with_reducible refine k_retN ?_
    | with_reducible refine k_e1 ?_ | with_reducible refine k_not ?_ | with_reducible refine k_and ?_ | with_reducible refine k_or ?_ | with_reducible refine k_ifE ?_ | with_reducible refine k_chain ?_ | with_reducible refine k_slice ?_ | with_reducible refine k_oN ?_ | with_reducible refine k_oS ?_ | with_reducible refine k_lc ?_
    | with_reducible refine k_bAnd ?_ | with_reducible refine k_bOr ?_ | with_reducible refine k_bNot ?_ | with_reducible refine k_yes ?_ | with_reducible refine k_onI ?_ | with_reducible refine k_onR ?_ | with_reducible refine k_onL1 ?_ | with_reducible refine k_onL2 ?_ | with_reducible refine k_itT ?_ | with_reducible refine k_itS ?_
    | with_reducible refine k_ends_rt ?_ | with_reducible refine k_ends_nx ?_ | with_reducible refine k_true ?_ | with_reducible refine k_false ?_ | with_reducible refine k_ntrue ?_ | with_reducible refine k_nfalse ?_
    | with_reducible refine k_addI ?_ | with_reducible refine k_subI ?_ | with_reducible refine k_intI ?_ | with_reducible refine k_ltI ?_ | with_reducible refine k_gtI ?_ | with_reducible refine k_leI ?_ | with_reducible refine k_geI ?_ | with_reducible refine k_eqI ?_ | with_reducible refine k_neI ?_ | with_reducible refine k_eqS ?_ | with_reducible refine k_neS ?_ | with_reducible refine k_negI ?_ | with_reducible refine k_notB ?_ | with_reducible refine k_maxI ?_ | with_reducible refine k_minI ?_ | with_reducible refine k_lenS ?_
    | ((with_reducible refine k_mulI ?e ?_); (case e => omega)) | ((with_reducible refine k_divI ?e ?e2 ?_); (case e => omega); (case e2 => omega)) | ((with_reducible refine k_modI ?e ?_); (case e => omega)) | ((with_reducible refine k_powI ?e ?_); (case e => decide))
    | ((with_reducible refine k_lst ?e ?_); (case e => first | decide | (simp; done) | (simp; omega))) | ((with_reducible refine k_tupD ?e ?_); (case e => first | decide | (simp; done)))
    | ((with_reducible refine' k_lenL ?e ?_); (case e => assumption)) | ((with_reducible refine' k_ixL ?e ?e2 ?_); (case e => assumption); (case e2 => first | assumption | rfl)) | ((with_reducible refine' k_ixT ?e2 ?_); (case e2 => first | assumption | rfl)) | ((with_reducible refine' k_itR ?e ?_); (case e => assumption)))
  have lss : (ssort xs).length = xs.length := (ssort_perm xs).length_eq
  refine (choices_sat 5 3 (ssort xs) _ h.length lst_new (by omega) (by omega) (by omega)).then fun v g2 q => ?_
  obtain ⟨r, rfl, hr, llr, xt2⟩ := q
  obtain ⟨vr, er, alr⟩ := id llr
  try refine k_itR er ?_
  have xtB : Ext h g2 := (Ext.refl.snoc).trans xt2
  have lr := alr.length
  have cl := cmb_sub_len 3 (ssort xs) (by omega) (by omega)
  refine st_forF vr.length (fun i σ g => (∃ o3 o4 o5, σ = [some (.ref p), some (.ref s), o3, o4, o5, none, none, none]) ∧ Ext g2 g ∧ ∀ y ∈ (cmb 3 (ssort xs)).take i, bad sets y = false)
    ⟨⟨none, none, none, rfl⟩, Ext.refl, by simp⟩ (by omega) fun i σ g hi w => ?_
  obtain ⟨⟨o3, o4, o5, rfl⟩, xt3, none'⟩ := w
  by_cases hlt : i < vr.length
  · obtain ⟨tr, et, q, eq0, bq, eq⟩ := alr.get (i := i) (List.getElem?_eq_getElem hlt)
    refine .inr ⟨hlt, .ref q, _, by rw [← eq0]; simp [itAt, xt3.lst er, hlt], rfl, ?_⟩
    have hmem : tr ∈ cmb 3 (ssort xs) := List.mem_of_getElem? et
    have ltr : tr.length = 3 := cmb_mem_len 3 _ _ hmem
    have eqg := eq.ext xt3
    have esg := es.ext (xtB.trans xt3)
    obtain ⟨vsg, esg1, _⟩ := id esg
    repeat (first
      | with_reducible refine k_seq ?_ | ((with_reducible refine k_then_nx ?_); try dsimp only [put]) | with_reducible refine k_e2 ?_ | ((with_reducible refine' k_var ?e ?_); (case e => rfl)) | with_reducible refine k_const ?_
      | with_reducible refine k_set ?_ | with_reducible refine k_if ?_ | with_reducible refine k_ret ?_ | with_reducible refine k_eL ?_ | with_reducible refine k_aCons ?_ | with_reducible refine k_aNil ?_ | with_reducible refine k_bT ?_ | with_reducible refine k_onB ?_
      | with_reducible refine k_call1 ?_ | with_reducible refine k_call2 ?_ | with_reducible refine k_call3 ?_ | with_reducible refine k_expr ?_ | with_reducible refine k_for ?_ | with_reducible refine k_meth ?_ | with_reducible refine k_sub ?_ | with_reducible refine k_par ?_ | with_reducible refine k_tup ?_
      | with_reducible refine k_iAny ?_ | with_reducible refine k_iRng1 ?_ | with_reducible refine k_iRng2 ?_ | with_reducible refine k_iEnm ?_ | with_reducible refine k_then_rt ?_ | with_reducible refine k_then_bk ?_ | with_reducible refine k_then_ct ?_ | with_reducible refine k_skip ?_ | with_reducible refine k_break ?_ | with_reducible refine k_cont ?_ | with_reducible refine k_retN ?_
      | with_reducible refine k_e1 ?_ | with_reducible refine k_not ?_ | with_reducible refine k_and ?_ | with_reducible refine k_or ?_ | with_reducible refine k_ifE ?_ | with_reducible refine k_chain ?_ | with_reducible refine k_slice ?_ | with_reducible refine k_oN ?_ | with_reducible refine k_oS ?_ | with_reducible refine k_lc ?_
      | with_reducible refine k_bAnd ?_ | with_reducible refine k_bOr ?_ | with_reducible refine k_bNot ?_ | with_reducible refine k_yes ?_ | with_reducible refine k_onI ?_ | with_reducible refine k_onR ?_ | with_reducible refine k_onL1 ?_ | with_reducible refine k_onL2 ?_ | with_reducible refine k_itT ?_ | with_reducible refine k_itS ?_
      | with_reducible refine k_ends_rt ?_ | with_reducible refine k_ends_nx ?_ | with_reducible refine k_true ?_ | with_reducible refine k_false ?_ | with_reducible refine k_ntrue ?_ | with_reducible refine k_nfalse ?_
      | with_reducible refine k_addI ?_ | with_reducible refine k_subI ?_ | with_reducible refine k_intI ?_ | with_reducible refine k_ltI ?_ | with_reducible refine k_gtI ?_ | with_reducible refine k_leI ?_ | with_reducible refine k_geI ?_ | with_reducible refine k_eqI ?_ | with_reducible refine k_neI ?_ | with_reducible refine k_eqS ?_ | with_reducible refine k_neS ?_ | with_reducible refine k_negI ?_ | with_reducible refine k_notB ?_ | with_reducible refine k_maxI ?_ | with_reducible refine k_minI ?_ | with_reducible refine k_lenS ?_
      | ((with_reducible refine k_mulI ?e ?_); (case e => omega)) | ((with_reducible refine k_divI ?e ?e2 ?_); (case e => omega); (case e2 => omega)) | ((with_reducible refine k_modI ?e ?_); (case e => omega)) | ((with_reducible refine k_powI ?e ?_); (case e => decide))
      | ((with_reducible refine k_lst ?e ?_); (case e => first | decide | (simp; done) | (simp; omega))) | ((with_reducible refine k_tupD ?e ?_); (case e => first | decide | (simp; done)))
      | ((with_reducible refine' k_lenL ?e ?_); (case e => assumption)) | ((with_reducible refine' k_ixL ?e ?e2 ?_); (case e => assumption); (case e2 => first | assumption | rfl)) | ((with_reducible refine' k_ixT ?e2 ?_); (case e2 => first | assumption | rfl)) | ((with_reducible refine' k_itR ?e ?_); (case e => assumption)))
    try refine k_itR esg1 ?_
    refine map_lc (i := 5) (trc tr) esg (by omega) ?_ ?_
    · intro ys q1 g3 hy e1 xt4
      have eqg3 := eqg.ext xt4
      repeat (first
        | with_reducible refine k_seq ?_ | ((with_reducible refine k_then_nx ?_); try dsimp only [put]) | with_reducible refine k_e2 ?_ | ((with_reducible refine' k_var ?e ?_); (case e => rfl)) | with_reducible refine k_const ?_
        | with_reducible refine k_set ?_ | with_reducible refine k_if ?_ | with_reducible refine k_ret ?_ | with_reducible refine k_eL ?_ | with_reducible refine k_aCons ?_ | with_reducible refine k_aNil ?_ | with_reducible refine k_bT ?_ | with_reducible refine k_onB ?_
        | with_reducible refine k_call1 ?_ | with_reducible refine k_call2 ?_ | with_reducible refine k_call3 ?_ | with_reducible refine k_expr ?_ | with_reducible refine k_for ?_ | with_reducible refine k_meth ?_ | with_reducible refine k_sub ?_ | with_reducible refine k_par ?_ | with_reducible refine k_tup ?_
        | with_reducible refine k_iAny ?_ | with_reducible refine k_iRng1 ?_ | with_reducible refine k_iRng2 ?_ | with_reducible refine k_iEnm ?_ | with_reducible refine k_then_rt ?_ | with_reducible refine k_then_bk ?_ | with_reducible refine k_then_ct ?_ | with_reducible refine k_skip ?_ | with_reducible refine k_break ?_ | with_reducible refine k_cont ?_ | with_reducible refine k_retN ?_
        | with_reducible refine k_e1 ?_ | with_reducible refine k_not ?_ | with_reducible refine k_and ?_ | with_reducible refine k_or ?_ | with_reducible refine k_ifE ?_ | with_reducible refine k_chain ?_ | with_reducible refine k_slice ?_ | with_reducible refine k_oN ?_ | with_reducible refine k_oS ?_ | with_reducible refine k_lc ?_
        | with_reducible refine k_bAnd ?_ | with_reducible refine k_bOr ?_ | with_reducible refine k_bNot ?_ | with_reducible refine k_yes ?_ | with_reducible refine k_onI ?_ | with_reducible refine k_onR ?_ | with_reducible refine k_onL1 ?_ | with_reducible refine k_onL2 ?_ | with_reducible refine k_itT ?_ | with_reducible refine k_itS ?_
        | with_reducible refine k_ends_rt ?_ | with_reducible refine k_ends_nx ?_ | with_reducible refine k_true ?_ | with_reducible refine k_false ?_ | with_reducible refine k_ntrue ?_ | with_reducible refine k_nfalse ?_
        | with_reducible refine k_addI ?_ | with_reducible refine k_subI ?_ | with_reducible refine k_intI ?_ | with_reducible refine k_ltI ?_ | with_reducible refine k_gtI ?_ | with_reducible refine k_leI ?_ | with_reducible refine k_geI ?_ | with_reducible refine k_eqI ?_ | with_reducible refine k_neI ?_ | with_reducible refine k_eqS ?_ | with_reducible refine k_neS ?_ | with_reducible refine k_negI ?_ | with_reducible refine k_notB ?_ | with_reducible refine k_maxI ?_ | with_reducible refine k_minI ?_ | with_reducible refine k_lenS ?_
        | ((with_reducible refine k_mulI ?e ?_); (case e => omega)) | ((with_reducible refine k_divI ?e ?e2 ?_); (case e => omega); (case e2 => omega)) | ((with_reducible refine k_modI ?e ?_); (case e => omega)) | ((with_reducible refine k_powI ?e ?_); (case e => decide))
        | ((with_reducible refine k_lst ?e ?_); (case e => first | decide | (simp; done) | (simp; omega))) | ((with_reducible refine k_tupD ?e ?_); (case e => first | decide | (simp; done)))
        | ((with_reducible refine' k_lenL ?e ?_); (case e => assumption)) | ((with_reducible refine' k_ixL ?e ?e2 ?_); (case e => assumption); (case e2 => first | assumption | rfl)) | ((with_reducible refine' k_ixT ?e2 ?_); (case e2 => first | assumption | rfl)) | ((with_reducible refine' k_itR ?e ?_); (case e => assumption)))
      try refine k_itR eqg3 ?_
      refine trace_lc (i := 5) (j := 6) eqg3 (e1.ext xt4) (by omega) (by omega) (by simp [wipeP, put]) rfl fun g4 q2 hq2 xt5 e5 => ?_
      repeat (first
        | with_reducible refine k_seq ?_ | ((with_reducible refine k_then_nx ?_); try dsimp only [put]) | with_reducible refine k_e2 ?_ | ((with_reducible refine' k_var ?e ?_); (case e => rfl)) | with_reducible refine k_const ?_
        | with_reducible refine k_set ?_ | with_reducible refine k_if ?_ | with_reducible refine k_ret ?_ | with_reducible refine k_eL ?_ | with_reducible refine k_aCons ?_ | with_reducible refine k_aNil ?_ | with_reducible refine k_bT ?_ | with_reducible refine k_onB ?_
        | with_reducible refine k_call1 ?_ | with_reducible refine k_call2 ?_ | with_reducible refine k_call3 ?_ | with_reducible refine k_expr ?_ | with_reducible refine k_for ?_ | with_reducible refine k_meth ?_ | with_reducible refine k_sub ?_ | with_reducible refine k_par ?_ | with_reducible refine k_tup ?_
        | with_reducible refine k_iAny ?_ | with_reducible refine k_iRng1 ?_ | with_reducible refine k_iRng2 ?_ | with_reducible refine k_iEnm ?_ | with_reducible refine k_then_rt ?_ | with_reducible refine k_then_bk ?_ | with_reducible refine k_then_ct ?_ | with_reducible refine k_skip ?_ | with_reducible refine k_break ?_ | with_reducible refine k_cont ?_ | with_reducible refine k_retN ?_
        | with_reducible refine k_e1 ?_ | with_reducible refine k_not ?_ | with_reducible refine k_and ?_ | with_reducible refine k_or ?_ | with_reducible refine k_ifE ?_ | with_reducible refine k_chain ?_ | with_reducible refine k_slice ?_ | with_reducible refine k_oN ?_ | with_reducible refine k_oS ?_ | with_reducible refine k_lc ?_
        | with_reducible refine k_bAnd ?_ | with_reducible refine k_bOr ?_ | with_reducible refine k_bNot ?_ | with_reducible refine k_yes ?_ | with_reducible refine k_onI ?_ | with_reducible refine k_onR ?_ | with_reducible refine k_onL1 ?_ | with_reducible refine k_onL2 ?_ | with_reducible refine k_itT ?_ | with_reducible refine k_itS ?_
        | with_reducible refine k_ends_rt ?_ | with_reducible refine k_ends_nx ?_ | with_reducible refine k_true ?_ | with_reducible refine k_false ?_ | with_reducible refine k_ntrue ?_ | with_reducible refine k_nfalse ?_
        | with_reducible refine k_addI ?_ | with_reducible refine k_subI ?_ | with_reducible refine k_intI ?_ | with_reducible refine k_ltI ?_ | with_reducible refine k_gtI ?_ | with_reducible refine k_leI ?_ | with_reducible refine k_geI ?_ | with_reducible refine k_eqI ?_ | with_reducible refine k_neI ?_ | with_reducible refine k_eqS ?_ | with_reducible refine k_neS ?_ | with_reducible refine k_negI ?_ | with_reducible refine k_notB ?_ | with_reducible refine k_maxI ?_ | with_reducible refine k_minI ?_ | with_reducible refine k_lenS ?_
        | ((with_reducible refine k_mulI ?e ?_); (case e => omega)) | ((with_reducible refine k_divI ?e ?e2 ?_); (case e => omega); (case e2 => omega)) | ((with_reducible refine k_modI ?e ?_); (case e => omega)) | ((with_reducible refine k_powI ?e ?_); (case e => decide))
        | ((with_reducible refine k_lst ?e ?_); (case e => first | decide | (simp; done) | (simp; omega))) | ((with_reducible refine k_tupD ?e ?_); (case e => first | decide | (simp; done)))
        | ((with_reducible refine' k_lenL ?e ?_); (case e => assumption)) | ((with_reducible refine' k_ixL ?e ?e2 ?_); (case e => assumption); (case e2 => first | assumption | rfl)) | ((with_reducible refine' k_ixT ?e2 ?_); (case e2 => first | assumption | rfl)) | ((with_reducible refine' k_itR ?e ?_); (case e => assumption)))
      have lt5 : (trc tr ys).length ≤ tr.length := List.length_filter_le _ _
      refine k_sorted e5 (by omega) ?_
      rw [trc_sorted hmem]
      exact ⟨_, rfl, xt5.len, lst_new, xt5.snoc⟩
    · intro g3 q3 hq3 xt4 ll3
      repeat (first
        | with_reducible refine k_seq ?_ | ((with_reducible refine k_then_nx ?_); try dsimp only [put]) | with_reducible refine k_e2 ?_ | ((with_reducible refine' k_var ?e ?_); (case e => rfl)) | with_reducible refine k_const ?_
        | with_reducible refine k_set ?_ | with_reducible refine k_if ?_ | with_reducible refine k_ret ?_ | with_reducible refine k_eL ?_ | with_reducible refine k_aCons ?_ | with_reducible refine k_aNil ?_ | with_reducible refine k_bT ?_ | with_reducible refine k_onB ?_
        | with_reducible refine k_call1 ?_ | with_reducible refine k_call2 ?_ | with_reducible refine k_call3 ?_ | with_reducible refine k_expr ?_ | with_reducible refine k_for ?_ | with_reducible refine k_meth ?_ | with_reducible refine k_sub ?_ | with_reducible refine k_par ?_ | with_reducible refine k_tup ?_
        | with_reducible refine k_iAny ?_ | with_reducible refine k_iRng1 ?_ | with_reducible refine k_iRng2 ?_ | with_reducible refine k_iEnm ?_ | with_reducible refine k_then_rt ?_ | with_reducible refine k_then_bk ?_ | with_reducible refine k_then_ct ?_ | with_reducible refine k_skip ?_ | with_reducible refine k_break ?_ | with_reducible refine k_cont ?_ | with_reducible refine k_retN ?_
        | with_reducible refine k_e1 ?_ | with_reducible refine k_not ?_ | with_reducible refine k_and ?_ | with_reducible refine k_or ?_ | with_reducible refine k_ifE ?_ | with_reducible refine k_chain ?_ | with_reducible refine k_slice ?_ | with_reducible refine k_oN ?_ | with_reducible refine k_oS ?_ | with_reducible refine k_lc ?_
        | with_reducible refine k_bAnd ?_ | with_reducible refine k_bOr ?_ | with_reducible refine k_bNot ?_ | with_reducible refine k_yes ?_ | with_reducible refine k_onI ?_ | with_reducible refine k_onR ?_ | with_reducible refine k_onL1 ?_ | with_reducible refine k_onL2 ?_ | with_reducible refine k_itT ?_ | with_reducible refine k_itS ?_
        | with_reducible refine k_ends_rt ?_ | with_reducible refine k_ends_nx ?_ | with_reducible refine k_true ?_ | with_reducible refine k_false ?_ | with_reducible refine k_ntrue ?_ | with_reducible refine k_nfalse ?_
        | with_reducible refine k_addI ?_ | with_reducible refine k_subI ?_ | with_reducible refine k_intI ?_ | with_reducible refine k_ltI ?_ | with_reducible refine k_gtI ?_ | with_reducible refine k_leI ?_ | with_reducible refine k_geI ?_ | with_reducible refine k_eqI ?_ | with_reducible refine k_neI ?_ | with_reducible refine k_eqS ?_ | with_reducible refine k_neS ?_ | with_reducible refine k_negI ?_ | with_reducible refine k_notB ?_ | with_reducible refine k_maxI ?_ | with_reducible refine k_minI ?_ | with_reducible refine k_lenS ?_
        | ((with_reducible refine k_mulI ?e ?_); (case e => omega)) | ((with_reducible refine k_divI ?e ?e2 ?_); (case e => omega); (case e2 => omega)) | ((with_reducible refine k_modI ?e ?_); (case e => omega)) | ((with_reducible refine k_powI ?e ?_); (case e => decide))
        | ((with_reducible refine k_lst ?e ?_); (case e => first | decide | (simp; done) | (simp; omega))) | ((with_reducible refine k_tupD ?e ?_); (case e => first | decide | (simp; done)))
        | ((with_reducible refine' k_lenL ?e ?_); (case e => assumption)) | ((with_reducible refine' k_ixL ?e ?e2 ?_); (case e => assumption); (case e2 => first | assumption | rfl)) | ((with_reducible refine' k_ixT ?e2 ?_); (case e2 => first | assumption | rfl)) | ((with_reducible refine' k_itR ?e ?_); (case e => assumption)))
      refine (choices_sat 5 2 tr _ q (eqg.ext xt4) (by omega) (by omega) (by omega)).then fun v g4 q4 => ?_
      obtain ⟨r4, rfl, hr4, llr4, xt5⟩ := q4
      obtain ⟨vr4, er4, _⟩ := id llr4
      try refine k_itR er4 ?_
      have cl2 := cmb_sub_len 2 tr (by omega) (by omega)
      refine pairs_lc (i := 3) (j := 7) llr4 (ll3.ll.ext xt5) (by omega) (by omega) (by simp [wipeP, put]) rfl fun g5 q5 vs5 hq5 xt6 e5 l5 => ?_
      repeat (first
        | with_reducible refine k_seq ?_ | ((with_reducible refine k_then_nx ?_); try dsimp only [put]) | with_reducible refine k_e2 ?_ | ((with_reducible refine' k_var ?e ?_); (case e => rfl)) | with_reducible refine k_const ?_
        | with_reducible refine k_set ?_ | with_reducible refine k_if ?_ | with_reducible refine k_ret ?_ | with_reducible refine k_eL ?_ | with_reducible refine k_aCons ?_ | with_reducible refine k_aNil ?_ | with_reducible refine k_bT ?_ | with_reducible refine k_onB ?_
        | with_reducible refine k_call1 ?_ | with_reducible refine k_call2 ?_ | with_reducible refine k_call3 ?_ | with_reducible refine k_expr ?_ | with_reducible refine k_for ?_ | with_reducible refine k_meth ?_ | with_reducible refine k_sub ?_ | with_reducible refine k_par ?_ | with_reducible refine k_tup ?_
        | with_reducible refine k_iAny ?_ | with_reducible refine k_iRng1 ?_ | with_reducible refine k_iRng2 ?_ | with_reducible refine k_iEnm ?_ | with_reducible refine k_then_rt ?_ | with_reducible refine k_then_bk ?_ | with_reducible refine k_then_ct ?_ | with_reducible refine k_skip ?_ | with_reducible refine k_break ?_ | with_reducible refine k_cont ?_ | with_reducible refine k_retN ?_
        | with_reducible refine k_e1 ?_ | with_reducible refine k_not ?_ | with_reducible refine k_and ?_ | with_reducible refine k_or ?_ | with_reducible refine k_ifE ?_ | with_reducible refine k_chain ?_ | with_reducible refine k_slice ?_ | with_reducible refine k_oN ?_ | with_reducible refine k_oS ?_ | with_reducible refine k_lc ?_
        | with_reducible refine k_bAnd ?_ | with_reducible refine k_bOr ?_ | with_reducible refine k_bNot ?_ | with_reducible refine k_yes ?_ | with_reducible refine k_onI ?_ | with_reducible refine k_onR ?_ | with_reducible refine k_onL1 ?_ | with_reducible refine k_onL2 ?_ | with_reducible refine k_itT ?_ | with_reducible refine k_itS ?_
        | with_reducible refine k_ends_rt ?_ | with_reducible refine k_ends_nx ?_ | with_reducible refine k_true ?_ | with_reducible refine k_false ?_ | with_reducible refine k_ntrue ?_ | with_reducible refine k_nfalse ?_
        | with_reducible refine k_addI ?_ | with_reducible refine k_subI ?_ | with_reducible refine k_intI ?_ | with_reducible refine k_ltI ?_ | with_reducible refine k_gtI ?_ | with_reducible refine k_leI ?_ | with_reducible refine k_geI ?_ | with_reducible refine k_eqI ?_ | with_reducible refine k_neI ?_ | with_reducible refine k_eqS ?_ | with_reducible refine k_neS ?_ | with_reducible refine k_negI ?_ | with_reducible refine k_notB ?_ | with_reducible refine k_maxI ?_ | with_reducible refine k_minI ?_ | with_reducible refine k_lenS ?_
        | ((with_reducible refine k_mulI ?e ?_); (case e => omega)) | ((with_reducible refine k_divI ?e ?e2 ?_); (case e => omega); (case e2 => omega)) | ((with_reducible refine k_modI ?e ?_); (case e => omega)) | ((with_reducible refine k_powI ?e ?_); (case e => decide))
        | ((with_reducible refine k_lst ?e ?_); (case e => first | decide | (simp; done) | (simp; omega))) | ((with_reducible refine k_tupD ?e ?_); (case e => first | decide | (simp; done)))
        | ((with_reducible refine' k_lenL ?e ?_); (case e => assumption)) | ((with_reducible refine' k_ixL ?e ?e2 ?_); (case e => assumption); (case e2 => first | assumption | rfl)) | ((with_reducible refine' k_ixT ?e2 ?_); (case e2 => first | assumption | rfl)) | ((with_reducible refine' k_itR ?e ?_); (case e => assumption)))
      have eqg5 := (eqg.ext xt4).ext (xt5.trans xt6)
      refine k_notInLL (ll3.ll.ext (xt5.trans xt6)) eqg5 ?_
      repeat (first
        | with_reducible refine k_seq ?_ | ((with_reducible refine k_then_nx ?_); try dsimp only [put]) | with_reducible refine k_e2 ?_ | ((with_reducible refine' k_var ?e ?_); (case e => rfl)) | with_reducible refine k_const ?_
        | with_reducible refine k_set ?_ | with_reducible refine k_if ?_ | with_reducible refine k_ret ?_ | with_reducible refine k_eL ?_ | with_reducible refine k_aCons ?_ | with_reducible refine k_aNil ?_ | with_reducible refine k_bT ?_ | with_reducible refine k_onB ?_
        | with_reducible refine k_call1 ?_ | with_reducible refine k_call2 ?_ | with_reducible refine k_call3 ?_ | with_reducible refine k_expr ?_ | with_reducible refine k_for ?_ | with_reducible refine k_meth ?_ | with_reducible refine k_sub ?_ | with_reducible refine k_par ?_ | with_reducible refine k_tup ?_
        | with_reducible refine k_iAny ?_ | with_reducible refine k_iRng1 ?_ | with_reducible refine k_iRng2 ?_ | with_reducible refine k_iEnm ?_ | with_reducible refine k_then_rt ?_ | with_reducible refine k_then_bk ?_ | with_reducible refine k_then_ct ?_ | with_reducible refine k_skip ?_ | with_reducible refine k_break ?_ | with_reducible refine k_cont ?_ | with_reducible refine k_retN ?_
        | with_reducible refine k_e1 ?_ | with_reducible refine k_not ?_ | with_reducible refine k_and ?_ | with_reducible refine k_or ?_ | with_reducible refine k_ifE ?_ | with_reducible refine k_chain ?_ | with_reducible refine k_slice ?_ | with_reducible refine k_oN ?_ | with_reducible refine k_oS ?_ | with_reducible refine k_lc ?_
        | with_reducible refine k_bAnd ?_ | with_reducible refine k_bOr ?_ | with_reducible refine k_bNot ?_ | with_reducible refine k_yes ?_ | with_reducible refine k_onI ?_ | with_reducible refine k_onR ?_ | with_reducible refine k_onL1 ?_ | with_reducible refine k_onL2 ?_ | with_reducible refine k_itT ?_ | with_reducible refine k_itS ?_
        | with_reducible refine k_ends_rt ?_ | with_reducible refine k_ends_nx ?_ | with_reducible refine k_true ?_ | with_reducible refine k_false ?_ | with_reducible refine k_ntrue ?_ | with_reducible refine k_nfalse ?_
        | with_reducible refine k_addI ?_ | with_reducible refine k_subI ?_ | with_reducible refine k_intI ?_ | with_reducible refine k_ltI ?_ | with_reducible refine k_gtI ?_ | with_reducible refine k_leI ?_ | with_reducible refine k_geI ?_ | with_reducible refine k_eqI ?_ | with_reducible refine k_neI ?_ | with_reducible refine k_eqS ?_ | with_reducible refine k_neS ?_ | with_reducible refine k_negI ?_ | with_reducible refine k_notB ?_ | with_reducible refine k_maxI ?_ | with_reducible refine k_minI ?_ | with_reducible refine k_lenS ?_
        | ((with_reducible refine k_mulI ?e ?_); (case e => omega)) | ((with_reducible refine k_divI ?e ?e2 ?_); (case e => omega); (case e2 => omega)) | ((with_reducible refine k_modI ?e ?_); (case e => omega)) | ((with_reducible refine k_powI ?e ?_); (case e => decide))
        | ((with_reducible refine k_lst ?e ?_); (case e => first | decide | (simp; done) | (simp; omega))) | ((with_reducible refine k_tupD ?e ?_); (case e => first | decide | (simp; done)))
        | ((with_reducible refine' k_lenL ?e ?_); (case e => assumption)) | ((with_reducible refine' k_ixL ?e ?e2 ?_); (case e => assumption); (case e2 => first | assumption | rfl)) | ((with_reducible refine' k_ixT ?e2 ?_); (case e2 => first | assumption | rfl)) | ((with_reducible refine' k_itR ?e ?_); (case e => assumption)))
      have ebad : bad sets tr = (!decide (tr ∈ sets.map (trc tr)) || decide (((cmb 2 tr).filter fun ys => decide (ys ∈ sets.map (trc tr))).length < 2)) := rfl
      have goodT : bad sets tr = true → (doubtF (ssort xs) sets) = some tr := fun hb => find_take _ i tr et none' hb
      have lenB : h.length ≤ q := Nat.le_trans (by simp) bq
      have xtF : Ext h g5 := xtB.trans (xt3.trans (xt4.trans (xt5.trans xt6)))
      refine k_decN (fun hno => ?_) fun hyes => ?_
      · repeat (first
          | with_reducible refine k_seq ?_ | ((with_reducible refine k_then_nx ?_); try dsimp only [put]) | with_reducible refine k_e2 ?_ | ((with_reducible refine' k_var ?e ?_); (case e => rfl)) | with_reducible refine k_const ?_
          | with_reducible refine k_set ?_ | with_reducible refine k_if ?_ | with_reducible refine k_ret ?_ | with_reducible refine k_eL ?_ | with_reducible refine k_aCons ?_ | with_reducible refine k_aNil ?_ | with_reducible refine k_bT ?_ | with_reducible refine k_onB ?_
          | with_reducible refine k_call1 ?_ | with_reducible refine k_call2 ?_ | with_reducible refine k_call3 ?_ | with_reducible refine k_expr ?_ | with_reducible refine k_for ?_ | with_reducible refine k_meth ?_ | with_reducible refine k_sub ?_ | with_reducible refine k_par ?_ | with_reducible refine k_tup ?_
          | with_reducible refine k_iAny ?_ | with_reducible refine k_iRng1 ?_ | with_reducible refine k_iRng2 ?_ | with_reducible refine k_iEnm ?_ | with_reducible refine k_then_rt ?_ | with_reducible refine k_then_bk ?_ | with_reducible refine k_then_ct ?_ | with_reducible refine k_skip ?_ | with_reducible refine k_break ?_ | with_reducible refine k_cont ?_ | with_reducible refine k_retN ?_
          | with_reducible refine k_e1 ?_ | with_reducible refine k_not ?_ | with_reducible refine k_and ?_ | with_reducible refine k_or ?_ | with_reducible refine k_ifE ?_ | with_reducible refine k_chain ?_ | with_reducible refine k_slice ?_ | with_reducible refine k_oN ?_ | with_reducible refine k_oS ?_ | with_reducible refine k_lc ?_
          | with_reducible refine k_bAnd ?_ | with_reducible refine k_bOr ?_ | with_reducible refine k_bNot ?_ | with_reducible refine k_yes ?_ | with_reducible refine k_onI ?_ | with_reducible refine k_onR ?_ | with_reducible refine k_onL1 ?_ | with_reducible refine k_onL2 ?_ | with_reducible refine k_itT ?_ | with_reducible refine k_itS ?_
          | with_reducible refine k_ends_rt ?_ | with_reducible refine k_ends_nx ?_ | with_reducible refine k_true ?_ | with_reducible refine k_false ?_ | with_reducible refine k_ntrue ?_ | with_reducible refine k_nfalse ?_
          | with_reducible refine k_addI ?_ | with_reducible refine k_subI ?_ | with_reducible refine k_intI ?_ | with_reducible refine k_ltI ?_ | with_reducible refine k_gtI ?_ | with_reducible refine k_leI ?_ | with_reducible refine k_geI ?_ | with_reducible refine k_eqI ?_ | with_reducible refine k_neI ?_ | with_reducible refine k_eqS ?_ | with_reducible refine k_neS ?_ | with_reducible refine k_negI ?_ | with_reducible refine k_notB ?_ | with_reducible refine k_maxI ?_ | with_reducible refine k_minI ?_ | with_reducible refine k_lenS ?_
          | ((with_reducible refine k_mulI ?e ?_); (case e => omega)) | ((with_reducible refine k_divI ?e ?e2 ?_); (case e => omega); (case e2 => omega)) | ((with_reducible refine k_modI ?e ?_); (case e => omega)) | ((with_reducible refine k_powI ?e ?_); (case e => decide))
          | ((with_reducible refine k_lst ?e ?_); (case e => first | decide | (simp; done) | (simp; omega))) | ((with_reducible refine k_tupD ?e ?_); (case e => first | decide | (simp; done)))
          | ((with_reducible refine' k_lenL ?e ?_); (case e => assumption)) | ((with_reducible refine' k_ixL ?e ?e2 ?_); (case e => assumption); (case e2 => first | assumption | rfl)) | ((with_reducible refine' k_ixT ?e2 ?_); (case e2 => first | assumption | rfl)) | ((with_reducible refine' k_itR ?e ?_); (case e => assumption)))
        refine ⟨?_, xtF⟩
        rw [goodT (by rw [ebad, decide_eq_false hno]; rfl)]
        exact ⟨q, rfl, lenB, eqg5⟩
      · repeat (first
          | with_reducible refine k_seq ?_ | ((with_reducible refine k_then_nx ?_); try dsimp only [put]) | with_reducible refine k_e2 ?_ | ((with_reducible refine' k_var ?e ?_); (case e => rfl)) | with_reducible refine k_const ?_
          | with_reducible refine k_set ?_ | with_reducible refine k_if ?_ | with_reducible refine k_ret ?_ | with_reducible refine k_eL ?_ | with_reducible refine k_aCons ?_ | with_reducible refine k_aNil ?_ | with_reducible refine k_bT ?_ | with_reducible refine k_onB ?_
          | with_reducible refine k_call1 ?_ | with_reducible refine k_call2 ?_ | with_reducible refine k_call3 ?_ | with_reducible refine k_expr ?_ | with_reducible refine k_for ?_ | with_reducible refine k_meth ?_ | with_reducible refine k_sub ?_ | with_reducible refine k_par ?_ | with_reducible refine k_tup ?_
          | with_reducible refine k_iAny ?_ | with_reducible refine k_iRng1 ?_ | with_reducible refine k_iRng2 ?_ | with_reducible refine k_iEnm ?_ | with_reducible refine k_then_rt ?_ | with_reducible refine k_then_bk ?_ | with_reducible refine k_then_ct ?_ | with_reducible refine k_skip ?_ | with_reducible refine k_break ?_ | with_reducible refine k_cont ?_ | with_reducible refine k_retN ?_
          | with_reducible refine k_e1 ?_ | with_reducible refine k_not ?_ | with_reducible refine k_and ?_ | with_reducible refine k_or ?_ | with_reducible refine k_ifE ?_ | with_reducible refine k_chain ?_ | with_reducible refine k_slice ?_ | with_reducible refine k_oN ?_ | with_reducible refine k_oS ?_ | with_reducible refine k_lc ?_
          | with_reducible refine k_bAnd ?_ | with_reducible refine k_bOr ?_ | with_reducible refine k_bNot ?_ | with_reducible refine k_yes ?_ | with_reducible refine k_onI ?_ | with_reducible refine k_onR ?_ | with_reducible refine k_onL1 ?_ | with_reducible refine k_onL2 ?_ | with_reducible refine k_itT ?_ | with_reducible refine k_itS ?_
          | with_reducible refine k_ends_rt ?_ | with_reducible refine k_ends_nx ?_ | with_reducible refine k_true ?_ | with_reducible refine k_false ?_ | with_reducible refine k_ntrue ?_ | with_reducible refine k_nfalse ?_
          | with_reducible refine k_addI ?_ | with_reducible refine k_subI ?_ | with_reducible refine k_intI ?_ | with_reducible refine k_ltI ?_ | with_reducible refine k_gtI ?_ | with_reducible refine k_leI ?_ | with_reducible refine k_geI ?_ | with_reducible refine k_eqI ?_ | with_reducible refine k_neI ?_ | with_reducible refine k_eqS ?_ | with_reducible refine k_neS ?_ | with_reducible refine k_negI ?_ | with_reducible refine k_notB ?_ | with_reducible refine k_maxI ?_ | with_reducible refine k_minI ?_ | with_reducible refine k_lenS ?_
          | ((with_reducible refine k_mulI ?e ?_); (case e => omega)) | ((with_reducible refine k_divI ?e ?e2 ?_); (case e => omega); (case e2 => omega)) | ((with_reducible refine k_modI ?e ?_); (case e => omega)) | ((with_reducible refine k_powI ?e ?_); (case e => decide))
          | ((with_reducible refine k_lst ?e ?_); (case e => first | decide | (simp; done) | (simp; omega))) | ((with_reducible refine k_tupD ?e ?_); (case e => first | decide | (simp; done)))
          | ((with_reducible refine' k_lenL ?e ?_); (case e => assumption)) | ((with_reducible refine' k_ixL ?e ?e2 ?_); (case e => assumption); (case e2 => first | assumption | rfl)) | ((with_reducible refine' k_ixT ?e2 ?_); (case e2 => first | assumption | rfl)) | ((with_reducible refine' k_itR ?e ?_); (case e => assumption)))
        try refine k_lenL e5 ?_
        repeat (first
          | with_reducible refine k_seq ?_ | ((with_reducible refine k_then_nx ?_); try dsimp only [put]) | with_reducible refine k_e2 ?_ | ((with_reducible refine' k_var ?e ?_); (case e => rfl)) | with_reducible refine k_const ?_
          | with_reducible refine k_set ?_ | with_reducible refine k_if ?_ | with_reducible refine k_ret ?_ | with_reducible refine k_eL ?_ | with_reducible refine k_aCons ?_ | with_reducible refine k_aNil ?_ | with_reducible refine k_bT ?_ | with_reducible refine k_onB ?_
          | with_reducible refine k_call1 ?_ | with_reducible refine k_call2 ?_ | with_reducible refine k_call3 ?_ | with_reducible refine k_expr ?_ | with_reducible refine k_for ?_ | with_reducible refine k_meth ?_ | with_reducible refine k_sub ?_ | with_reducible refine k_par ?_ | with_reducible refine k_tup ?_
          | with_reducible refine k_iAny ?_ | with_reducible refine k_iRng1 ?_ | with_reducible refine k_iRng2 ?_ | with_reducible refine k_iEnm ?_ | with_reducible refine k_then_rt ?_ | with_reducible refine k_then_bk ?_ | with_reducible refine k_then_ct ?_ | with_reducible refine k_skip ?_ | with_reducible refine k_break ?_ | with_reducible refine k_cont ?_ | with_reducible refine k_retN ?_
          | with_reducible refine k_e1 ?_ | with_reducible refine k_not ?_ | with_reducible refine k_and ?_ | with_reducible refine k_or ?_ | with_reducible refine k_ifE ?_ | with_reducible refine k_chain ?_ | with_reducible refine k_slice ?_ | with_reducible refine k_oN ?_ | with_reducible refine k_oS ?_ | with_reducible refine k_lc ?_
          | with_reducible refine k_bAnd ?_ | with_reducible refine k_bOr ?_ | with_reducible refine k_bNot ?_ | with_reducible refine k_yes ?_ | with_reducible refine k_onI ?_ | with_reducible refine k_onR ?_ | with_reducible refine k_onL1 ?_ | with_reducible refine k_onL2 ?_ | with_reducible refine k_itT ?_ | with_reducible refine k_itS ?_
          | with_reducible refine k_ends_rt ?_ | with_reducible refine k_ends_nx ?_ | with_reducible refine k_true ?_ | with_reducible refine k_false ?_ | with_reducible refine k_ntrue ?_ | with_reducible refine k_nfalse ?_
          | with_reducible refine k_addI ?_ | with_reducible refine k_subI ?_ | with_reducible refine k_intI ?_ | with_reducible refine k_ltI ?_ | with_reducible refine k_gtI ?_ | with_reducible refine k_leI ?_ | with_reducible refine k_geI ?_ | with_reducible refine k_eqI ?_ | with_reducible refine k_neI ?_ | with_reducible refine k_eqS ?_ | with_reducible refine k_neS ?_ | with_reducible refine k_negI ?_ | with_reducible refine k_notB ?_ | with_reducible refine k_maxI ?_ | with_reducible refine k_minI ?_ | with_reducible refine k_lenS ?_
          | ((with_reducible refine k_mulI ?e ?_); (case e => omega)) | ((with_reducible refine k_divI ?e ?e2 ?_); (case e => omega); (case e2 => omega)) | ((with_reducible refine k_modI ?e ?_); (case e => omega)) | ((with_reducible refine k_powI ?e ?_); (case e => decide))
          | ((with_reducible refine k_lst ?e ?_); (case e => first | decide | (simp; done) | (simp; omega))) | ((with_reducible refine k_tupD ?e ?_); (case e => first | decide | (simp; done)))
          | ((with_reducible refine' k_lenL ?e ?_); (case e => assumption)) | ((with_reducible refine' k_ixL ?e ?e2 ?_); (case e => assumption); (case e2 => first | assumption | rfl)) | ((with_reducible refine' k_ixT ?e2 ?_); (case e2 => first | assumption | rfl)) | ((with_reducible refine' k_itR ?e ?_); (case e => assumption)))
        refine k_dec (fun hlt2 => ?_) fun hge => ?_
        · repeat (first
            | with_reducible refine k_seq ?_ | ((with_reducible refine k_then_nx ?_); try dsimp only [put]) | with_reducible refine k_e2 ?_ | ((with_reducible refine' k_var ?e ?_); (case e => rfl)) | with_reducible refine k_const ?_
            | with_reducible refine k_set ?_ | with_reducible refine k_if ?_ | with_reducible refine k_ret ?_ | with_reducible refine k_eL ?_ | with_reducible refine k_aCons ?_ | with_reducible refine k_aNil ?_ | with_reducible refine k_bT ?_ | with_reducible refine k_onB ?_
            | with_reducible refine k_call1 ?_ | with_reducible refine k_call2 ?_ | with_reducible refine k_call3 ?_ | with_reducible refine k_expr ?_ | with_reducible refine k_for ?_ | with_reducible refine k_meth ?_ | with_reducible refine k_sub ?_ | with_reducible refine k_par ?_ | with_reducible refine k_tup ?_
            | with_reducible refine k_iAny ?_ | with_reducible refine k_iRng1 ?_ | with_reducible refine k_iRng2 ?_ | with_reducible refine k_iEnm ?_ | with_reducible refine k_then_rt ?_ | with_reducible refine k_then_bk ?_ | with_reducible refine k_then_ct ?_ | with_reducible refine k_skip ?_ | with_reducible refine k_break ?_ | with_reducible refine k_cont ?_ | with_reducible refine k_retN ?_
            | with_reducible refine k_e1 ?_ | with_reducible refine k_not ?_ | with_reducible refine k_and ?_ | with_reducible refine k_or ?_ | with_reducible refine k_ifE ?_ | with_reducible refine k_chain ?_ | with_reducible refine k_slice ?_ | with_reducible refine k_oN ?_ | with_reducible refine k_oS ?_ | with_reducible refine k_lc ?_
            | with_reducible refine k_bAnd ?_ | with_reducible refine k_bOr ?_ | with_reducible refine k_bNot ?_ | with_reducible refine k_yes ?_ | with_reducible refine k_onI ?_ | with_reducible refine k_onR ?_ | with_reducible refine k_onL1 ?_ | with_reducible refine k_onL2 ?_ | with_reducible refine k_itT ?_ | with_reducible refine k_itS ?_
            | with_reducible refine k_ends_rt ?_ | with_reducible refine k_ends_nx ?_ | with_reducible refine k_true ?_ | with_reducible refine k_false ?_ | with_reducible refine k_ntrue ?_ | with_reducible refine k_nfalse ?_
            | with_reducible refine k_addI ?_ | with_reducible refine k_subI ?_ | with_reducible refine k_intI ?_ | with_reducible refine k_ltI ?_ | with_reducible refine k_gtI ?_ | with_reducible refine k_leI ?_ | with_reducible refine k_geI ?_ | with_reducible refine k_eqI ?_ | with_reducible refine k_neI ?_ | with_reducible refine k_eqS ?_ | with_reducible refine k_neS ?_ | with_reducible refine k_negI ?_ | with_reducible refine k_notB ?_ | with_reducible refine k_maxI ?_ | with_reducible refine k_minI ?_ | with_reducible refine k_lenS ?_
            | ((with_reducible refine k_mulI ?e ?_); (case e => omega)) | ((with_reducible refine k_divI ?e ?e2 ?_); (case e => omega); (case e2 => omega)) | ((with_reducible refine k_modI ?e ?_); (case e => omega)) | ((with_reducible refine k_powI ?e ?_); (case e => decide))
            | ((with_reducible refine k_lst ?e ?_); (case e => first | decide | (simp; done) | (simp; omega))) | ((with_reducible refine k_tupD ?e ?_); (case e => first | decide | (simp; done)))
            | ((with_reducible refine' k_lenL ?e ?_); (case e => assumption)) | ((with_reducible refine' k_ixL ?e ?e2 ?_); (case e => assumption); (case e2 => first | assumption | rfl)) | ((with_reducible refine' k_ixT ?e2 ?_); (case e2 => first | assumption | rfl)) | ((with_reducible refine' k_itR ?e ?_); (case e => assumption)))
          refine ⟨?_, xtF⟩
          rw [goodT (by rw [ebad, ← l5, decide_eq_true (show vs5.length < 2 by omega), Bool.or_true])]
          exact ⟨q, rfl, lenB, eqg5⟩
        · repeat (first
            | with_reducible refine k_seq ?_ | ((with_reducible refine k_then_nx ?_); try dsimp only [put]) | with_reducible refine k_e2 ?_ | ((with_reducible refine' k_var ?e ?_); (case e => rfl)) | with_reducible refine k_const ?_
            | with_reducible refine k_set ?_ | with_reducible refine k_if ?_ | with_reducible refine k_ret ?_ | with_reducible refine k_eL ?_ | with_reducible refine k_aCons ?_ | with_reducible refine k_aNil ?_ | with_reducible refine k_bT ?_ | with_reducible refine k_onB ?_
            | with_reducible refine k_call1 ?_ | with_reducible refine k_call2 ?_ | with_reducible refine k_call3 ?_ | with_reducible refine k_expr ?_ | with_reducible refine k_for ?_ | with_reducible refine k_meth ?_ | with_reducible refine k_sub ?_ | with_reducible refine k_par ?_ | with_reducible refine k_tup ?_
            | with_reducible refine k_iAny ?_ | with_reducible refine k_iRng1 ?_ | with_reducible refine k_iRng2 ?_ | with_reducible refine k_iEnm ?_ | with_reducible refine k_then_rt ?_ | with_reducible refine k_then_bk ?_ | with_reducible refine k_then_ct ?_ | with_reducible refine k_skip ?_ | with_reducible refine k_break ?_ | with_reducible refine k_cont ?_ | with_reducible refine k_retN ?_
            | with_reducible refine k_e1 ?_ | with_reducible refine k_not ?_ | with_reducible refine k_and ?_ | with_reducible refine k_or ?_ | with_reducible refine k_ifE ?_ | with_reducible refine k_chain ?_ | with_reducible refine k_slice ?_ | with_reducible refine k_oN ?_ | with_reducible refine k_oS ?_ | with_reducible refine k_lc ?_
            | with_reducible refine k_bAnd ?_ | with_reducible refine k_bOr ?_ | with_reducible refine k_bNot ?_ | with_reducible refine k_yes ?_ | with_reducible refine k_onI ?_ | with_reducible refine k_onR ?_ | with_reducible refine k_onL1 ?_ | with_reducible refine k_onL2 ?_ | with_reducible refine k_itT ?_ | with_reducible refine k_itS ?_
            | with_reducible refine k_ends_rt ?_ | with_reducible refine k_ends_nx ?_ | with_reducible refine k_true ?_ | with_reducible refine k_false ?_ | with_reducible refine k_ntrue ?_ | with_reducible refine k_nfalse ?_
            | with_reducible refine k_addI ?_ | with_reducible refine k_subI ?_ | with_reducible refine k_intI ?_ | with_reducible refine k_ltI ?_ | with_reducible refine k_gtI ?_ | with_reducible refine k_leI ?_ | with_reducible refine k_geI ?_ | with_reducible refine k_eqI ?_ | with_reducible refine k_neI ?_ | with_reducible refine k_eqS ?_ | with_reducible refine k_neS ?_ | with_reducible refine k_negI ?_ | with_reducible refine k_notB ?_ | with_reducible refine k_maxI ?_ | with_reducible refine k_minI ?_ | with_reducible refine k_lenS ?_
            | ((with_reducible refine k_mulI ?e ?_); (case e => omega)) | ((with_reducible refine k_divI ?e ?e2 ?_); (case e => omega); (case e2 => omega)) | ((with_reducible refine k_modI ?e ?_); (case e => omega)) | ((with_reducible refine k_powI ?e ?_); (case e => decide))
            | ((with_reducible refine k_lst ?e ?_); (case e => first | decide | (simp; done) | (simp; omega))) | ((with_reducible refine k_tupD ?e ?_); (case e => first | decide | (simp; done)))
            | ((with_reducible refine' k_lenL ?e ?_); (case e => assumption)) | ((with_reducible refine' k_ixL ?e ?e2 ?_); (case e => assumption); (case e2 => first | assumption | rfl)) | ((with_reducible refine' k_ixT ?e2 ?_); (case e2 => first | assumption | rfl)) | ((with_reducible refine' k_itR ?e ?_); (case e => assumption)))
          refine ⟨⟨_, _, _, rfl⟩, xt3.trans (xt4.trans (xt5.trans xt6)), fun y hy => ?_⟩
          rw [List.take_add_one, et] at hy
          rcases List.mem_append.mp hy with hy | hy
          · exact none' y hy
          · simp at hy
            subst hy
            rw [ebad, ← l5, decide_eq_true hyes, decide_eq_false (show ¬ vs5.length < 2 by omega)]
            rfl
  · have : i = vr.length := by omega
    subst this
    refine .inl ⟨rfl, by simp [itAt, xt3.lst er], ?_⟩
    repeat (first
      | with_reducible refine k_seq ?_ | ((with_reducible refine k_then_nx ?_); try dsimp only [put]) | with_reducible refine k_e2 ?_ | ((with_reducible refine' k_var ?e ?_); (case e => rfl)) | with_reducible refine k_const ?_
      | with_reducible refine k_set ?_ | with_reducible refine k_if ?_ | with_reducible refine k_ret ?_ | with_reducible refine k_eL ?_ | with_reducible refine k_aCons ?_ | with_reducible refine k_aNil ?_ | with_reducible refine k_bT ?_ | with_reducible refine k_onB ?_
      | with_reducible refine k_call1 ?_ | with_reducible refine k_call2 ?_ | with_reducible refine k_call3 ?_ | with_reducible refine k_expr ?_ | with_reducible refine k_for ?_ | with_reducible refine k_meth ?_ | with_reducible refine k_sub ?_ | with_reducible refine k_par ?_ | with_reducible refine k_tup ?_
      | with_reducible refine k_iAny ?_ | with_reducible refine k_iRng1 ?_ | with_reducible refine k_iRng2 ?_ | with_reducible refine k_iEnm ?_ | with_reducible refine k_then_rt ?_ | with_reducible refine k_then_bk ?_ | with_reducible refine k_then_ct ?_ | with_reducible refine k_skip ?_ | with_reducible refine k_break ?_ | with_reducible refine k_cont ?_ | with_reducible refine k_retN ?_
      | with_reducible refine k_e1 ?_ | with_reducible refine k_not ?_ | with_reducible refine k_and ?_ | with_reducible refine k_or ?_ | with_reducible refine k_ifE ?_ | with_reducible refine k_chain ?_ | with_reducible refine k_slice ?_ | with_reducible refine k_oN ?_ | with_reducible refine k_oS ?_ | with_reducible refine k_lc ?_
      | with_reducible refine k_bAnd ?_ | with_reducible refine k_bOr ?_ | with_reducible refine k_bNot ?_ | with_reducible refine k_yes ?_ | with_reducible refine k_onI ?_ | with_reducible refine k_onR ?_ | with_reducible refine k_onL1 ?_ | with_reducible refine k_onL2 ?_ | with_reducible refine k_itT ?_ | with_reducible refine k_itS ?_
      | with_reducible refine k_ends_rt ?_ | with_reducible refine k_ends_nx ?_ | with_reducible refine k_true ?_ | with_reducible refine k_false ?_ | with_reducible refine k_ntrue ?_ | with_reducible refine k_nfalse ?_
      | with_reducible refine k_addI ?_ | with_reducible refine k_subI ?_ | with_reducible refine k_intI ?_ | with_reducible refine k_ltI ?_ | with_reducible refine k_gtI ?_ | with_reducible refine k_leI ?_ | with_reducible refine k_geI ?_ | with_reducible refine k_eqI ?_ | with_reducible refine k_neI ?_ | with_reducible refine k_eqS ?_ | with_reducible refine k_neS ?_ | with_reducible refine k_negI ?_ | with_reducible refine k_notB ?_ | with_reducible refine k_maxI ?_ | with_reducible refine k_minI ?_ | with_reducible refine k_lenS ?_
      | ((with_reducible refine k_mulI ?e ?_); (case e => omega)) | ((with_reducible refine k_divI ?e ?e2 ?_); (case e => omega); (case e2 => omega)) | ((with_reducible refine k_modI ?e ?_); (case e => omega)) | ((with_reducible refine k_powI ?e ?_); (case e => decide))
      | ((with_reducible refine k_lst ?e ?_); (case e => first | decide | (simp; done) | (simp; omega))) | ((with_reducible refine k_tupD ?e ?_); (case e => first | decide | (simp; done)))
      | ((with_reducible refine' k_lenL ?e ?_); (case e => assumption)) | ((with_reducible refine' k_ixL ?e ?e2 ?_); (case e => assumption); (case e2 => first | assumption | rfl)) | ((with_reducible refine' k_ixT ?e2 ?_); (case e2 => first | assumption | rfl)) | ((with_reducible refine' k_itR ?e ?_); (case e => assumption)))
    refine ⟨?_, xtB.trans xt3⟩
    have : doubtF (ssort xs) sets = none := by
      unfold doubtF
      rw [List.find?_eq_none]
      intro y hy
      rw [lr, List.take_length] at none'
      simp [none' y hy]
    rw [this]
    rfl
end Pg
namespace Pg
open PySem PySem.Spec L2 Mi
def Good (xs ys : List Str) : Prop := (∀ y ∈ ys, y ∈ xs) ∧ ys.Nodup ∧ ys.length ≤ 30
theorem good_of_perm_take {xs zs : List Str} (nd : xs.Nodup) (hl : xs.length ≤ 30) (pm : zs.Perm xs) (n : Nat) : Good xs (zs.take n) :=
  ⟨fun y hy => pm.mem_iff.mp (List.mem_of_mem_take hy), (pm.nodup_iff.mpr nd).sublist (List.take_sublist _ _), by
    have := pm.length_eq
    simp only [List.length_take]; omega⟩
theorem good_filter {xs : List Str} (nd : xs.Nodup) (hl : xs.length ≤ 30) (p : Str → Bool) : Good xs (xs.filter p) :=
  ⟨fun y hy => (List.mem_filter.mp hy).1, nd.sublist List.filter_sublist, Nat.le_trans (List.length_filter_le _ _) hl⟩
theorem LRF.mod {a b : Nat} {h h' : Hh} {v : Pv} {xs : List Str} (m : Mod a h h') (r : LRF b h v xs) (ab : a < b) : LRF b h' v xs := let ⟨q, e1, e2, e3⟩ := r; ⟨q, e1, e2, m.lst e3 (by omega)⟩
theorem perm_svs {zs : List Pv} {xs : List Str} (pm : zs.Perm (svs xs)) : ∃ ys : List Str, zs = svs ys ∧ ys.Perm xs := by
  have : ∀ (xs : List Str) (zs : List Pv), (∀ z ∈ zs, ∃ s, z = Pv.str s) → ∃ ys : List Str, zs = svs ys := by
    intro xs zs
    induction zs with
    | nil => intro _; exact ⟨[], rfl⟩
    | cons z zs ih =>
      intro hz
      obtain ⟨s, rfl⟩ := hz z List.mem_cons_self
      obtain ⟨ys, rfl⟩ := ih fun z h => hz z (List.mem_cons_of_mem _ h)
      exact ⟨s :: ys, rfl⟩
  obtain ⟨ys, rfl⟩ := this xs zs fun z hz => by
    have := pm.mem_iff.mp hz
    simp only [svs, List.mem_map] at this
    obtain ⟨s, _, e⟩ := this
    exact ⟨s, e.symm⟩
  refine ⟨ys, rfl, ?_⟩
  let un : Pv → Str := fun v => match v with | .str s => s | _ => ""
  have e : ∀ l : List Str, (svs l).map un = l := by
    intro l
    simp only [svs, List.map_map]
    exact (List.map_congr_left fun _ _ => rfl).trans (List.map_id _)
  have := pm.map un
  rwa [e, e] at this
theorem svs_all2 : ∀ xs : List Str, All2 (fun (x : Pv) (z : Str) => x = .str z) (svs xs) xs
  | [] => .nil
  | x :: xs => .cons rfl (svs_all2 xs)
theorem groups_sat {h : Hh} {a p : Nat} {xs : List Str} (s : Src h a) (ep : LS h p xs) (pa : p ≠ a) (nd : xs.Nodup) (hl : xs.length ≤ 30) :
    Sat (d__law_groups [.ref a, .ref p] h) (fun v h' => ∃ q sets, v = .ref q ∧ h.length ≤ q ∧ LLF h.length h' q sets ∧ sets.length ≤ 200 ∧ (∀ ys ∈ sets, Good xs ys) ∧ Mod a h h') NoX := by
  have alt := s.lt
  have m0 := Mod.refl s
  unfold d__law_groups
  refine st_fn' (σ0 := [some (.ref a), some (.ref p), none, none, none, none, none]) rfl ?_
  repeat (first
    | with_reducible refine k_seq ?_ | ((with_reducible refine k_then_nx ?_); try dsimp only [put]) | with_reducible refine k_e2 ?_ | ((with_reducible refine' k_var ?e ?_); (case e => rfl)) | with_reducible refine k_const ?_
    | with_reducible refine k_set ?_ | with_reducible refine k_if ?_ | with_reducible refine k_ret ?_ | with_reducible refine k_eL ?_ | with_reducible refine k_aCons ?_ | with_reducible refine k_aNil ?_ | with_reducible refine k_bT ?_ | with_reducible refine k_onB ?_
    | with_reducible refine k_call1 ?_ | with_reducible refine k_call2 ?_ | with_reducible refine k_call3 ?_ | with_reducible refine k_expr ?_ | with_reducible refine k_for ?_ | with_reducible refine k_meth ?_ | with_reducible refine k_sub ?_ | with_reducible refine k_par ?_ | with_reducible refine k_tup ?_
    | with_reducible refine k_iAny ?_ | with_reducible refine k_iRng1 ?_ | with_reducible refine k_iRng2 ?_ | with_reducible refine k_iEnm ?_ | with_reducible refine k_then_rt ?_ | with_reducible refine k_then_bk ?_ | with_reducible refine k_then_ct ?_ | with_reducible refine k_skip ?_ | with_reducible refine k_break ?_ | with_reducible refine k_cont ?_ | with_reducible refine k_retN ?_
    | with_reducible refine k_e1 ?_ | with_reducible refine k_not ?_ | with_reducible refine k_and ?_ | with_reducible refine k_or ?_ | with_reducible refine k_ifE ?_ | with_reducible refine k_chain ?_ | with_reducible refine k_slice ?_ | with_reducible refine k_oN ?_ | with_reducible refine k_oS ?_ | with_reducible refine k_lc ?_
    | with_reducible refine k_bAnd ?_ | with_reducible refine k_bOr ?_ | with_reducible refine k_bNot ?_ | with_reducible refine k_yes ?_ | with_reducible refine k_onI ?_ | with_reducible refine k_onR ?_ | with_reducible refine k_onL1 ?_ | with_reducible refine k_onL2 ?_ | with_reducible refine k_itT ?_ | with_reducible refine k_itS ?_
    | with_reducible refine k_ends_rt ?_ | with_reducible refine k_ends_nx ?_ | with_reducible refine k_true ?_ | with_reducible refine k_false ?_ | with_reducible refine k_ntrue ?_ | with_reducible refine k_nfalse ?_
    | with_reducible refine k_addI ?_ | with_reducible refine k_subI ?_ | with_reducible refine k_intI ?_ | with_reducible refine k_ltI ?_ | with_reducible refine k_gtI ?_ | with_reducible refine k_leI ?_ | with_reducible refine k_geI ?_ | with_reducible refine k_eqI ?_ | with_reducible refine k_neI ?_ | with_reducible refine k_eqS ?_ | with_reducible refine k_neS ?_ | with_reducible refine k_negI ?_ | with_reducible refine k_notB ?_ | with_reducible refine k_maxI ?_ | with_reducible refine k_minI ?_ | with_reducible refine k_lenS ?_
    | ((with_reducible refine k_mulI ?e ?_); (case e => omega)) | ((with_reducible refine k_divI ?e ?e2 ?_); (case e => omega); (case e2 => omega)) | ((with_reducible refine k_modI ?e ?_); (case e => omega)) | ((with_reducible refine k_powI ?e ?_); (case e => decide))
    | ((with_reducible refine k_lst ?e ?_); (case e => first | decide | (simp; done) | (simp; omega))) | ((with_reducible refine k_tupD ?e ?_); (case e => first | decide | (simp; done)))
    | ((with_reducible refine' k_lenL ?e ?_); (case e => assumption)) | ((with_reducible refine' k_ixL ?e ?e2 ?_); (case e => assumption); (case e2 => first | assumption | rfl)) | ((with_reducible refine' k_ixT ?e2 ?_); (case e2 => first | assumption | rfl)) | ((with_reducible refine' k_itR ?e ?_); (case e => assumption)))
  refine (next_sat m0.snoc.src (by omega) (by omega)).then fun v g q => ?_
  obtain ⟨r, rfl, r0, r1, md0⟩ := q
  have mdS : Mod a h g := m0.snoc.trans md0
  have ef0 := md0.lst (lst_new (h := h) (xs := [])) (by omega)
  obtain ⟨n, rfl⟩ := Int.eq_ofNat_of_zero_le r0
  repeat (first
    | with_reducible refine k_seq ?_ | ((with_reducible refine k_then_nx ?_); try dsimp only [put]) | with_reducible refine k_e2 ?_ | ((with_reducible refine' k_var ?e ?_); (case e => rfl)) | with_reducible refine k_const ?_
    | with_reducible refine k_set ?_ | with_reducible refine k_if ?_ | with_reducible refine k_ret ?_ | with_reducible refine k_eL ?_ | with_reducible refine k_aCons ?_ | with_reducible refine k_aNil ?_ | with_reducible refine k_bT ?_ | with_reducible refine k_onB ?_
    | with_reducible refine k_call1 ?_ | with_reducible refine k_call2 ?_ | with_reducible refine k_call3 ?_ | with_reducible refine k_expr ?_ | with_reducible refine k_for ?_ | with_reducible refine k_meth ?_ | with_reducible refine k_sub ?_ | with_reducible refine k_par ?_ | with_reducible refine k_tup ?_
    | with_reducible refine k_iAny ?_ | with_reducible refine k_iRng1 ?_ | with_reducible refine k_iRng2 ?_ | with_reducible refine k_iEnm ?_ | with_reducible refine k_then_rt ?_ | with_reducible refine k_then_bk ?_ | with_reducible refine k_then_ct ?_ | with_reducible refine k_skip ?_ | with_reducible refine k_break ?_ | with_reducible refine k_cont ?_ | with_reducible refine k_retN ?_
    | with_reducible refine k_e1 ?_ | with_reducible refine k_not ?_ | with_reducible refine k_and ?_ | with_reducible refine k_or ?_ | with_reducible refine k_ifE ?_ | with_reducible refine k_chain ?_ | with_reducible refine k_slice ?_ | with_reducible refine k_oN ?_ | with_reducible refine k_oS ?_ | with_reducible refine k_lc ?_
    | with_reducible refine k_bAnd ?_ | with_reducible refine k_bOr ?_ | with_reducible refine k_bNot ?_ | with_reducible refine k_yes ?_ | with_reducible refine k_onI ?_ | with_reducible refine k_onR ?_ | with_reducible refine k_onL1 ?_ | with_reducible refine k_onL2 ?_ | with_reducible refine k_itT ?_ | with_reducible refine k_itS ?_
    | with_reducible refine k_ends_rt ?_ | with_reducible refine k_ends_nx ?_ | with_reducible refine k_true ?_ | with_reducible refine k_false ?_ | with_reducible refine k_ntrue ?_ | with_reducible refine k_nfalse ?_
    | with_reducible refine k_addI ?_ | with_reducible refine k_subI ?_ | with_reducible refine k_intI ?_ | with_reducible refine k_ltI ?_ | with_reducible refine k_gtI ?_ | with_reducible refine k_leI ?_ | with_reducible refine k_geI ?_ | with_reducible refine k_eqI ?_ | with_reducible refine k_neI ?_ | with_reducible refine k_eqS ?_ | with_reducible refine k_neS ?_ | with_reducible refine k_negI ?_ | with_reducible refine k_notB ?_ | with_reducible refine k_maxI ?_ | with_reducible refine k_minI ?_ | with_reducible refine k_lenS ?_
    | ((with_reducible refine k_mulI ?e ?_); (case e => omega)) | ((with_reducible refine k_divI ?e ?e2 ?_); (case e => omega); (case e2 => omega)) | ((with_reducible refine k_modI ?e ?_); (case e => omega)) | ((with_reducible refine k_powI ?e ?_); (case e => decide))
    | ((with_reducible refine k_lst ?e ?_); (case e => first | decide | (simp; done) | (simp; omega))) | ((with_reducible refine k_tupD ?e ?_); (case e => first | decide | (simp; done)))
    | ((with_reducible refine' k_lenL ?e ?_); (case e => assumption)) | ((with_reducible refine' k_ixL ?e ?e2 ?_); (case e => assumption); (case e2 => first | assumption | rfl)) | ((with_reducible refine' k_ixT ?e2 ?_); (case e2 => first | assumption | rfl)) | ((with_reducible refine' k_itR ?e ?_); (case e => assumption)))
  refine ⟨by omega, by omega, ?_⟩
  refine st_forF n (fun i σ g => ∃ o3 o4 sets, σ = [some (.ref a), some (.ref p), some (.ref h.length), o3, o4, none, none] ∧ Mod a h g ∧ LLF (h.length + 1) g h.length sets ∧ sets.length ≤ i ∧ ∀ ys ∈ sets, Good xs ys)
    ⟨none, none, [], rfl, mdS, ⟨[], ef0, .nil⟩, Nat.le_refl _, by simp⟩ (by omega) fun i σ g hi w => ?_
  obtain ⟨o3, o4, sets, rfl, md, llf, hls, good⟩ := w
  by_cases hlt : i < n
  · refine .inr ⟨hlt, .int (0 + i), _, by simp [itAt, hlt], rfl, ?_⟩
    have ep1 : LS g p xs := md.lst ep pa
    repeat (first
      | with_reducible refine k_seq ?_ | ((with_reducible refine k_then_nx ?_); try dsimp only [put]) | with_reducible refine k_e2 ?_ | ((with_reducible refine' k_var ?e ?_); (case e => rfl)) | with_reducible refine k_const ?_
      | with_reducible refine k_set ?_ | with_reducible refine k_if ?_ | with_reducible refine k_ret ?_ | with_reducible refine k_eL ?_ | with_reducible refine k_aCons ?_ | with_reducible refine k_aNil ?_ | with_reducible refine k_bT ?_ | with_reducible refine k_onB ?_
      | with_reducible refine k_call1 ?_ | with_reducible refine k_call2 ?_ | with_reducible refine k_call3 ?_ | with_reducible refine k_expr ?_ | with_reducible refine k_for ?_ | with_reducible refine k_meth ?_ | with_reducible refine k_sub ?_ | with_reducible refine k_par ?_ | with_reducible refine k_tup ?_
      | with_reducible refine k_iAny ?_ | with_reducible refine k_iRng1 ?_ | with_reducible refine k_iRng2 ?_ | with_reducible refine k_iEnm ?_ | with_reducible refine k_then_rt ?_ | with_reducible refine k_then_bk ?_ | with_reducible refine k_then_ct ?_ | with_reducible refine k_skip ?_ | with_reducible refine k_break ?_ | with_reducible refine k_cont ?_ | with_reducible refine k_retN ?_
      | with_reducible refine k_e1 ?_ | with_reducible refine k_not ?_ | with_reducible refine k_and ?_ | with_reducible refine k_or ?_ | with_reducible refine k_ifE ?_ | with_reducible refine k_chain ?_ | with_reducible refine k_slice ?_ | with_reducible refine k_oN ?_ | with_reducible refine k_oS ?_ | with_reducible refine k_lc ?_
      | with_reducible refine k_bAnd ?_ | with_reducible refine k_bOr ?_ | with_reducible refine k_bNot ?_ | with_reducible refine k_yes ?_ | with_reducible refine k_onI ?_ | with_reducible refine k_onR ?_ | with_reducible refine k_onL1 ?_ | with_reducible refine k_onL2 ?_ | with_reducible refine k_itT ?_ | with_reducible refine k_itS ?_
      | with_reducible refine k_ends_rt ?_ | with_reducible refine k_ends_nx ?_ | with_reducible refine k_true ?_ | with_reducible refine k_false ?_ | with_reducible refine k_ntrue ?_ | with_reducible refine k_nfalse ?_
      | with_reducible refine k_addI ?_ | with_reducible refine k_subI ?_ | with_reducible refine k_intI ?_ | with_reducible refine k_ltI ?_ | with_reducible refine k_gtI ?_ | with_reducible refine k_leI ?_ | with_reducible refine k_geI ?_ | with_reducible refine k_eqI ?_ | with_reducible refine k_neI ?_ | with_reducible refine k_eqS ?_ | with_reducible refine k_neS ?_ | with_reducible refine k_negI ?_ | with_reducible refine k_notB ?_ | with_reducible refine k_maxI ?_ | with_reducible refine k_minI ?_ | with_reducible refine k_lenS ?_
      | ((with_reducible refine k_mulI ?e ?_); (case e => omega)) | ((with_reducible refine k_divI ?e ?e2 ?_); (case e => omega); (case e2 => omega)) | ((with_reducible refine k_modI ?e ?_); (case e => omega)) | ((with_reducible refine k_powI ?e ?_); (case e => decide))
      | ((with_reducible refine k_lst ?e ?_); (case e => first | decide | (simp; done) | (simp; omega))) | ((with_reducible refine k_tupD ?e ?_); (case e => first | decide | (simp; done)))
      | ((with_reducible refine' k_lenL ?e ?_); (case e => assumption)) | ((with_reducible refine' k_ixL ?e ?e2 ?_); (case e => assumption); (case e2 => first | assumption | rfl)) | ((with_reducible refine' k_ixT ?e2 ?_); (case e2 => first | assumption | rfl)) | ((with_reducible refine' k_itR ?e ?_); (case e => assumption)))
    have lsv : (svs xs).length = xs.length := by simp [svs]
    refine (next_sat md.src (by omega) (by omega)).then fun v g1 q => ?_
    obtain ⟨r1, rfl, r10, r11, md1⟩ := q
    have mdA := md.trans md1
    have ep2 : LS g1 p xs := mdA.lst ep pa
    repeat (first
      | with_reducible refine k_seq ?_ | ((with_reducible refine k_then_nx ?_); try dsimp only [put]) | with_reducible refine k_e2 ?_ | ((with_reducible refine' k_var ?e ?_); (case e => rfl)) | with_reducible refine k_const ?_
      | with_reducible refine k_set ?_ | with_reducible refine k_if ?_ | with_reducible refine k_ret ?_ | with_reducible refine k_eL ?_ | with_reducible refine k_aCons ?_ | with_reducible refine k_aNil ?_ | with_reducible refine k_bT ?_ | with_reducible refine k_onB ?_
      | with_reducible refine k_call1 ?_ | with_reducible refine k_call2 ?_ | with_reducible refine k_call3 ?_ | with_reducible refine k_expr ?_ | with_reducible refine k_for ?_ | with_reducible refine k_meth ?_ | with_reducible refine k_sub ?_ | with_reducible refine k_par ?_ | with_reducible refine k_tup ?_
      | with_reducible refine k_iAny ?_ | with_reducible refine k_iRng1 ?_ | with_reducible refine k_iRng2 ?_ | with_reducible refine k_iEnm ?_ | with_reducible refine k_then_rt ?_ | with_reducible refine k_then_bk ?_ | with_reducible refine k_then_ct ?_ | with_reducible refine k_skip ?_ | with_reducible refine k_break ?_ | with_reducible refine k_cont ?_ | with_reducible refine k_retN ?_
      | with_reducible refine k_e1 ?_ | with_reducible refine k_not ?_ | with_reducible refine k_and ?_ | with_reducible refine k_or ?_ | with_reducible refine k_ifE ?_ | with_reducible refine k_chain ?_ | with_reducible refine k_slice ?_ | with_reducible refine k_oN ?_ | with_reducible refine k_oS ?_ | with_reducible refine k_lc ?_
      | with_reducible refine k_bAnd ?_ | with_reducible refine k_bOr ?_ | with_reducible refine k_bNot ?_ | with_reducible refine k_yes ?_ | with_reducible refine k_onI ?_ | with_reducible refine k_onR ?_ | with_reducible refine k_onL1 ?_ | with_reducible refine k_onL2 ?_ | with_reducible refine k_itT ?_ | with_reducible refine k_itS ?_
      | with_reducible refine k_ends_rt ?_ | with_reducible refine k_ends_nx ?_ | with_reducible refine k_true ?_ | with_reducible refine k_false ?_ | with_reducible refine k_ntrue ?_ | with_reducible refine k_nfalse ?_
      | with_reducible refine k_addI ?_ | with_reducible refine k_subI ?_ | with_reducible refine k_intI ?_ | with_reducible refine k_ltI ?_ | with_reducible refine k_gtI ?_ | with_reducible refine k_leI ?_ | with_reducible refine k_geI ?_ | with_reducible refine k_eqI ?_ | with_reducible refine k_neI ?_ | with_reducible refine k_eqS ?_ | with_reducible refine k_neS ?_ | with_reducible refine k_negI ?_ | with_reducible refine k_notB ?_ | with_reducible refine k_maxI ?_ | with_reducible refine k_minI ?_ | with_reducible refine k_lenS ?_
      | ((with_reducible refine k_mulI ?e ?_); (case e => omega)) | ((with_reducible refine k_divI ?e ?e2 ?_); (case e => omega); (case e2 => omega)) | ((with_reducible refine k_modI ?e ?_); (case e => omega)) | ((with_reducible refine k_powI ?e ?_); (case e => decide))
      | ((with_reducible refine k_lst ?e ?_); (case e => first | decide | (simp; done) | (simp; omega))) | ((with_reducible refine k_tupD ?e ?_); (case e => first | decide | (simp; done)))
      | ((with_reducible refine' k_lenL ?e ?_); (case e => assumption)) | ((with_reducible refine' k_ixL ?e ?e2 ?_); (case e => assumption); (case e2 => first | assumption | rfl)) | ((with_reducible refine' k_ixT ?e2 ?_); (case e2 => first | assumption | rfl)) | ((with_reducible refine' k_itR ?e ?_); (case e => assumption)))
    refine (next_sat mdA.src (by omega) (by omega)).then fun v g2 q => ?_
    obtain ⟨r2, rfl, r20, r21, md2⟩ := q
    have mdB := mdA.trans md2
    repeat (first
      | with_reducible refine k_seq ?_ | ((with_reducible refine k_then_nx ?_); try dsimp only [put]) | with_reducible refine k_e2 ?_ | ((with_reducible refine' k_var ?e ?_); (case e => rfl)) | with_reducible refine k_const ?_
      | with_reducible refine k_set ?_ | with_reducible refine k_if ?_ | with_reducible refine k_ret ?_ | with_reducible refine k_eL ?_ | with_reducible refine k_aCons ?_ | with_reducible refine k_aNil ?_ | with_reducible refine k_bT ?_ | with_reducible refine k_onB ?_
      | with_reducible refine k_call1 ?_ | with_reducible refine k_call2 ?_ | with_reducible refine k_call3 ?_ | with_reducible refine k_expr ?_ | with_reducible refine k_for ?_ | with_reducible refine k_meth ?_ | with_reducible refine k_sub ?_ | with_reducible refine k_par ?_ | with_reducible refine k_tup ?_
      | with_reducible refine k_iAny ?_ | with_reducible refine k_iRng1 ?_ | with_reducible refine k_iRng2 ?_ | with_reducible refine k_iEnm ?_ | with_reducible refine k_then_rt ?_ | with_reducible refine k_then_bk ?_ | with_reducible refine k_then_ct ?_ | with_reducible refine k_skip ?_ | with_reducible refine k_break ?_ | with_reducible refine k_cont ?_ | with_reducible refine k_retN ?_
      | with_reducible refine k_e1 ?_ | with_reducible refine k_not ?_ | with_reducible refine k_and ?_ | with_reducible refine k_or ?_ | with_reducible refine k_ifE ?_ | with_reducible refine k_chain ?_ | with_reducible refine k_slice ?_ | with_reducible refine k_oN ?_ | with_reducible refine k_oS ?_ | with_reducible refine k_lc ?_
      | with_reducible refine k_bAnd ?_ | with_reducible refine k_bOr ?_ | with_reducible refine k_bNot ?_ | with_reducible refine k_yes ?_ | with_reducible refine k_onI ?_ | with_reducible refine k_onR ?_ | with_reducible refine k_onL1 ?_ | with_reducible refine k_onL2 ?_ | with_reducible refine k_itT ?_ | with_reducible refine k_itS ?_
      | with_reducible refine k_ends_rt ?_ | with_reducible refine k_ends_nx ?_ | with_reducible refine k_true ?_ | with_reducible refine k_false ?_ | with_reducible refine k_ntrue ?_ | with_reducible refine k_nfalse ?_
      | with_reducible refine k_addI ?_ | with_reducible refine k_subI ?_ | with_reducible refine k_intI ?_ | with_reducible refine k_ltI ?_ | with_reducible refine k_gtI ?_ | with_reducible refine k_leI ?_ | with_reducible refine k_geI ?_ | with_reducible refine k_eqI ?_ | with_reducible refine k_neI ?_ | with_reducible refine k_eqS ?_ | with_reducible refine k_neS ?_ | with_reducible refine k_negI ?_ | with_reducible refine k_notB ?_ | with_reducible refine k_maxI ?_ | with_reducible refine k_minI ?_ | with_reducible refine k_lenS ?_
      | ((with_reducible refine k_mulI ?e ?_); (case e => omega)) | ((with_reducible refine k_divI ?e ?e2 ?_); (case e => omega); (case e2 => omega)) | ((with_reducible refine k_modI ?e ?_); (case e => omega)) | ((with_reducible refine k_powI ?e ?_); (case e => decide))
      | ((with_reducible refine k_lst ?e ?_); (case e => first | decide | (simp; done) | (simp; omega))) | ((with_reducible refine k_tupD ?e ?_); (case e => first | decide | (simp; done)))
      | ((with_reducible refine' k_lenL ?e ?_); (case e => assumption)) | ((with_reducible refine' k_ixL ?e ?e2 ?_); (case e => assumption); (case e2 => first | assumption | rfl)) | ((with_reducible refine' k_ixT ?e2 ?_); (case e2 => first | assumption | rfl)) | ((with_reducible refine' k_itR ?e ?_); (case e => assumption)))
    refine (next_sat mdB.snoc.src (by omega) (by omega)).then fun v g3 q => ?_
    obtain ⟨r3, rfl, r30, r31, md3⟩ := q
    have mdC := mdB.snoc.trans md3
    have eL := md3.lst (lst_new (h := g2)) (by have := mdB.len; omega)
    have ex : ∃ k : Nat, atI [Pv.int r1, Pv.int (if ((xs.length : Nat) : Int) - r2 > 0 then ((xs.length : Nat) : Int) - r2 else 0)] r3 = some (.int (k : Nat)) := by
      rcases (show r3 = 0 ∨ r3 = 1 by omega) with e | e
      · subst e
        exact ⟨r1.toNat, by show some (Pv.int r1) = _; rw [Int.toNat_of_nonneg r10]⟩
      · subst e
        refine ⟨(if ((xs.length : Nat) : Int) - r2 > 0 then ((xs.length : Nat) : Int) - r2 else 0).toNat, ?_⟩
        show some (Pv.int _) = _
        rw [Int.toNat_of_nonneg (by split <;> omega)]
    obtain ⟨k, ek⟩ := ex
    have ek' : atI [Pv.int r1, Pv.int (if (((svs xs).length : Nat) : Int) - r2 > 0 then (((svs xs).length : Nat) : Int) - r2 else 0)] r3 = some (.int (k : Nat)) := by simpa [svs] using ek
    refine k_ixL eL ek' ?_
    repeat (first
      | with_reducible refine k_seq ?_ | ((with_reducible refine k_then_nx ?_); try dsimp only [put]) | with_reducible refine k_e2 ?_ | ((with_reducible refine' k_var ?e ?_); (case e => rfl)) | with_reducible refine k_const ?_
      | with_reducible refine k_set ?_ | with_reducible refine k_if ?_ | with_reducible refine k_ret ?_ | with_reducible refine k_eL ?_ | with_reducible refine k_aCons ?_ | with_reducible refine k_aNil ?_ | with_reducible refine k_bT ?_ | with_reducible refine k_onB ?_
      | with_reducible refine k_call1 ?_ | with_reducible refine k_call2 ?_ | with_reducible refine k_call3 ?_ | with_reducible refine k_expr ?_ | with_reducible refine k_for ?_ | with_reducible refine k_meth ?_ | with_reducible refine k_sub ?_ | with_reducible refine k_par ?_ | with_reducible refine k_tup ?_
      | with_reducible refine k_iAny ?_ | with_reducible refine k_iRng1 ?_ | with_reducible refine k_iRng2 ?_ | with_reducible refine k_iEnm ?_ | with_reducible refine k_then_rt ?_ | with_reducible refine k_then_bk ?_ | with_reducible refine k_then_ct ?_ | with_reducible refine k_skip ?_ | with_reducible refine k_break ?_ | with_reducible refine k_cont ?_ | with_reducible refine k_retN ?_
      | with_reducible refine k_e1 ?_ | with_reducible refine k_not ?_ | with_reducible refine k_and ?_ | with_reducible refine k_or ?_ | with_reducible refine k_ifE ?_ | with_reducible refine k_chain ?_ | with_reducible refine k_slice ?_ | with_reducible refine k_oN ?_ | with_reducible refine k_oS ?_ | with_reducible refine k_lc ?_
      | with_reducible refine k_bAnd ?_ | with_reducible refine k_bOr ?_ | with_reducible refine k_bNot ?_ | with_reducible refine k_yes ?_ | with_reducible refine k_onI ?_ | with_reducible refine k_onR ?_ | with_reducible refine k_onL1 ?_ | with_reducible refine k_onL2 ?_ | with_reducible refine k_itT ?_ | with_reducible refine k_itS ?_
      | with_reducible refine k_ends_rt ?_ | with_reducible refine k_ends_nx ?_ | with_reducible refine k_true ?_ | with_reducible refine k_false ?_ | with_reducible refine k_ntrue ?_ | with_reducible refine k_nfalse ?_
      | with_reducible refine k_addI ?_ | with_reducible refine k_subI ?_ | with_reducible refine k_intI ?_ | with_reducible refine k_ltI ?_ | with_reducible refine k_gtI ?_ | with_reducible refine k_leI ?_ | with_reducible refine k_geI ?_ | with_reducible refine k_eqI ?_ | with_reducible refine k_neI ?_ | with_reducible refine k_eqS ?_ | with_reducible refine k_neS ?_ | with_reducible refine k_negI ?_ | with_reducible refine k_notB ?_ | with_reducible refine k_maxI ?_ | with_reducible refine k_minI ?_ | with_reducible refine k_lenS ?_
      | ((with_reducible refine k_mulI ?e ?_); (case e => omega)) | ((with_reducible refine k_divI ?e ?e2 ?_); (case e => omega); (case e2 => omega)) | ((with_reducible refine k_modI ?e ?_); (case e => omega)) | ((with_reducible refine k_powI ?e ?_); (case e => decide))
      | ((with_reducible refine k_lst ?e ?_); (case e => first | decide | (simp; done) | (simp; omega))) | ((with_reducible refine k_tupD ?e ?_); (case e => first | decide | (simp; done)))
      | ((with_reducible refine' k_lenL ?e ?_); (case e => assumption)) | ((with_reducible refine' k_ixL ?e ?e2 ?_); (case e => assumption); (case e2 => first | assumption | rfl)) | ((with_reducible refine' k_ixT ?e2 ?_); (case e2 => first | assumption | rfl)) | ((with_reducible refine' k_itR ?e ?_); (case e => assumption)))
    obtain ⟨vf, ef, alf⟩ := llf
    have mdg : Mod a g g3 := ((md1.trans md2).snoc).trans md3
    have ef3 := mdg.lst ef (by omega)
    refine ⟨k_isL ef3, ?_⟩
    repeat (first
      | with_reducible refine k_seq ?_ | ((with_reducible refine k_then_nx ?_); try dsimp only [put]) | with_reducible refine k_e2 ?_ | ((with_reducible refine' k_var ?e ?_); (case e => rfl)) | with_reducible refine k_const ?_
      | with_reducible refine k_set ?_ | with_reducible refine k_if ?_ | with_reducible refine k_ret ?_ | with_reducible refine k_eL ?_ | with_reducible refine k_aCons ?_ | with_reducible refine k_aNil ?_ | with_reducible refine k_bT ?_ | with_reducible refine k_onB ?_
      | with_reducible refine k_call1 ?_ | with_reducible refine k_call2 ?_ | with_reducible refine k_call3 ?_ | with_reducible refine k_expr ?_ | with_reducible refine k_for ?_ | with_reducible refine k_meth ?_ | with_reducible refine k_sub ?_ | with_reducible refine k_par ?_ | with_reducible refine k_tup ?_
      | with_reducible refine k_iAny ?_ | with_reducible refine k_iRng1 ?_ | with_reducible refine k_iRng2 ?_ | with_reducible refine k_iEnm ?_ | with_reducible refine k_then_rt ?_ | with_reducible refine k_then_bk ?_ | with_reducible refine k_then_ct ?_ | with_reducible refine k_skip ?_ | with_reducible refine k_break ?_ | with_reducible refine k_cont ?_ | with_reducible refine k_retN ?_
      | with_reducible refine k_e1 ?_ | with_reducible refine k_not ?_ | with_reducible refine k_and ?_ | with_reducible refine k_or ?_ | with_reducible refine k_ifE ?_ | with_reducible refine k_chain ?_ | with_reducible refine k_slice ?_ | with_reducible refine k_oN ?_ | with_reducible refine k_oS ?_ | with_reducible refine k_lc ?_
      | with_reducible refine k_bAnd ?_ | with_reducible refine k_bOr ?_ | with_reducible refine k_bNot ?_ | with_reducible refine k_yes ?_ | with_reducible refine k_onI ?_ | with_reducible refine k_onR ?_ | with_reducible refine k_onL1 ?_ | with_reducible refine k_onL2 ?_ | with_reducible refine k_itT ?_ | with_reducible refine k_itS ?_
      | with_reducible refine k_ends_rt ?_ | with_reducible refine k_ends_nx ?_ | with_reducible refine k_true ?_ | with_reducible refine k_false ?_ | with_reducible refine k_ntrue ?_ | with_reducible refine k_nfalse ?_
      | with_reducible refine k_addI ?_ | with_reducible refine k_subI ?_ | with_reducible refine k_intI ?_ | with_reducible refine k_ltI ?_ | with_reducible refine k_gtI ?_ | with_reducible refine k_leI ?_ | with_reducible refine k_geI ?_ | with_reducible refine k_eqI ?_ | with_reducible refine k_neI ?_ | with_reducible refine k_eqS ?_ | with_reducible refine k_neS ?_ | with_reducible refine k_negI ?_ | with_reducible refine k_notB ?_ | with_reducible refine k_maxI ?_ | with_reducible refine k_minI ?_ | with_reducible refine k_lenS ?_
      | ((with_reducible refine k_mulI ?e ?_); (case e => omega)) | ((with_reducible refine k_divI ?e ?e2 ?_); (case e => omega); (case e2 => omega)) | ((with_reducible refine k_modI ?e ?_); (case e => omega)) | ((with_reducible refine k_powI ?e ?_); (case e => decide))
      | ((with_reducible refine k_lst ?e ?_); (case e => first | decide | (simp; done) | (simp; omega))) | ((with_reducible refine k_tupD ?e ?_); (case e => first | decide | (simp; done)))
      | ((with_reducible refine' k_lenL ?e ?_); (case e => assumption)) | ((with_reducible refine' k_ixL ?e ?e2 ?_); (case e => assumption); (case e2 => first | assumption | rfl)) | ((with_reducible refine' k_ixT ?e2 ?_); (case e2 => first | assumption | rfl)) | ((with_reducible refine' k_itR ?e ?_); (case e => assumption)))
    have ep3 : LS g3 p xs := mdC.lst ep pa
    refine (shuffled_sat mdC.src ep3 (by simp [svs]; omega)).then fun v g4 q => ?_
    obtain ⟨q4, zs, rfl, hq4, e4, pm, md4⟩ := q
    obtain ⟨ys, rfl, pm'⟩ := perm_svs pm
    repeat (first
      | with_reducible refine k_seq ?_ | ((with_reducible refine k_then_nx ?_); try dsimp only [put]) | with_reducible refine k_e2 ?_ | ((with_reducible refine' k_var ?e ?_); (case e => rfl)) | with_reducible refine k_const ?_
      | with_reducible refine k_set ?_ | with_reducible refine k_if ?_ | with_reducible refine k_ret ?_ | with_reducible refine k_eL ?_ | with_reducible refine k_aCons ?_ | with_reducible refine k_aNil ?_ | with_reducible refine k_bT ?_ | with_reducible refine k_onB ?_
      | with_reducible refine k_call1 ?_ | with_reducible refine k_call2 ?_ | with_reducible refine k_call3 ?_ | with_reducible refine k_expr ?_ | with_reducible refine k_for ?_ | with_reducible refine k_meth ?_ | with_reducible refine k_sub ?_ | with_reducible refine k_par ?_ | with_reducible refine k_tup ?_
      | with_reducible refine k_iAny ?_ | with_reducible refine k_iRng1 ?_ | with_reducible refine k_iRng2 ?_ | with_reducible refine k_iEnm ?_ | with_reducible refine k_then_rt ?_ | with_reducible refine k_then_bk ?_ | with_reducible refine k_then_ct ?_ | with_reducible refine k_skip ?_ | with_reducible refine k_break ?_ | with_reducible refine k_cont ?_ | with_reducible refine k_retN ?_
      | with_reducible refine k_e1 ?_ | with_reducible refine k_not ?_ | with_reducible refine k_and ?_ | with_reducible refine k_or ?_ | with_reducible refine k_ifE ?_ | with_reducible refine k_chain ?_ | with_reducible refine k_slice ?_ | with_reducible refine k_oN ?_ | with_reducible refine k_oS ?_ | with_reducible refine k_lc ?_
      | with_reducible refine k_bAnd ?_ | with_reducible refine k_bOr ?_ | with_reducible refine k_bNot ?_ | with_reducible refine k_yes ?_ | with_reducible refine k_onI ?_ | with_reducible refine k_onR ?_ | with_reducible refine k_onL1 ?_ | with_reducible refine k_onL2 ?_ | with_reducible refine k_itT ?_ | with_reducible refine k_itS ?_
      | with_reducible refine k_ends_rt ?_ | with_reducible refine k_ends_nx ?_ | with_reducible refine k_true ?_ | with_reducible refine k_false ?_ | with_reducible refine k_ntrue ?_ | with_reducible refine k_nfalse ?_
      | with_reducible refine k_addI ?_ | with_reducible refine k_subI ?_ | with_reducible refine k_intI ?_ | with_reducible refine k_ltI ?_ | with_reducible refine k_gtI ?_ | with_reducible refine k_leI ?_ | with_reducible refine k_geI ?_ | with_reducible refine k_eqI ?_ | with_reducible refine k_neI ?_ | with_reducible refine k_eqS ?_ | with_reducible refine k_neS ?_ | with_reducible refine k_negI ?_ | with_reducible refine k_notB ?_ | with_reducible refine k_maxI ?_ | with_reducible refine k_minI ?_ | with_reducible refine k_lenS ?_
      | ((with_reducible refine k_mulI ?e ?_); (case e => omega)) | ((with_reducible refine k_divI ?e ?e2 ?_); (case e => omega); (case e2 => omega)) | ((with_reducible refine k_modI ?e ?_); (case e => omega)) | ((with_reducible refine k_powI ?e ?_); (case e => decide))
      | ((with_reducible refine k_lst ?e ?_); (case e => first | decide | (simp; done) | (simp; omega))) | ((with_reducible refine k_tupD ?e ?_); (case e => first | decide | (simp; done)))
      | ((with_reducible refine' k_lenL ?e ?_); (case e => assumption)) | ((with_reducible refine' k_ixL ?e ?e2 ?_); (case e => assumption); (case e2 => first | assumption | rfl)) | ((with_reducible refine' k_ixT ?e2 ?_); (case e2 => first | assumption | rfl)) | ((with_reducible refine' k_itR ?e ?_); (case e => assumption)))
    refine k_slL e4 ?_
    rw [cut_to]
    repeat (first
      | with_reducible refine k_seq ?_ | ((with_reducible refine k_then_nx ?_); try dsimp only [put]) | with_reducible refine k_e2 ?_ | ((with_reducible refine' k_var ?e ?_); (case e => rfl)) | with_reducible refine k_const ?_
      | with_reducible refine k_set ?_ | with_reducible refine k_if ?_ | with_reducible refine k_ret ?_ | with_reducible refine k_eL ?_ | with_reducible refine k_aCons ?_ | with_reducible refine k_aNil ?_ | with_reducible refine k_bT ?_ | with_reducible refine k_onB ?_
      | with_reducible refine k_call1 ?_ | with_reducible refine k_call2 ?_ | with_reducible refine k_call3 ?_ | with_reducible refine k_expr ?_ | with_reducible refine k_for ?_ | with_reducible refine k_meth ?_ | with_reducible refine k_sub ?_ | with_reducible refine k_par ?_ | with_reducible refine k_tup ?_
      | with_reducible refine k_iAny ?_ | with_reducible refine k_iRng1 ?_ | with_reducible refine k_iRng2 ?_ | with_reducible refine k_iEnm ?_ | with_reducible refine k_then_rt ?_ | with_reducible refine k_then_bk ?_ | with_reducible refine k_then_ct ?_ | with_reducible refine k_skip ?_ | with_reducible refine k_break ?_ | with_reducible refine k_cont ?_ | with_reducible refine k_retN ?_
      | with_reducible refine k_e1 ?_ | with_reducible refine k_not ?_ | with_reducible refine k_and ?_ | with_reducible refine k_or ?_ | with_reducible refine k_ifE ?_ | with_reducible refine k_chain ?_ | with_reducible refine k_slice ?_ | with_reducible refine k_oN ?_ | with_reducible refine k_oS ?_ | with_reducible refine k_lc ?_
      | with_reducible refine k_bAnd ?_ | with_reducible refine k_bOr ?_ | with_reducible refine k_bNot ?_ | with_reducible refine k_yes ?_ | with_reducible refine k_onI ?_ | with_reducible refine k_onR ?_ | with_reducible refine k_onL1 ?_ | with_reducible refine k_onL2 ?_ | with_reducible refine k_itT ?_ | with_reducible refine k_itS ?_
      | with_reducible refine k_ends_rt ?_ | with_reducible refine k_ends_nx ?_ | with_reducible refine k_true ?_ | with_reducible refine k_false ?_ | with_reducible refine k_ntrue ?_ | with_reducible refine k_nfalse ?_
      | with_reducible refine k_addI ?_ | with_reducible refine k_subI ?_ | with_reducible refine k_intI ?_ | with_reducible refine k_ltI ?_ | with_reducible refine k_gtI ?_ | with_reducible refine k_leI ?_ | with_reducible refine k_geI ?_ | with_reducible refine k_eqI ?_ | with_reducible refine k_neI ?_ | with_reducible refine k_eqS ?_ | with_reducible refine k_neS ?_ | with_reducible refine k_negI ?_ | with_reducible refine k_notB ?_ | with_reducible refine k_maxI ?_ | with_reducible refine k_minI ?_ | with_reducible refine k_lenS ?_
      | ((with_reducible refine k_mulI ?e ?_); (case e => omega)) | ((with_reducible refine k_divI ?e ?e2 ?_); (case e => omega); (case e2 => omega)) | ((with_reducible refine k_modI ?e ?_); (case e => omega)) | ((with_reducible refine k_powI ?e ?_); (case e => decide))
      | ((with_reducible refine k_lst ?e ?_); (case e => first | decide | (simp; done) | (simp; omega))) | ((with_reducible refine k_tupD ?e ?_); (case e => first | decide | (simp; done)))
      | ((with_reducible refine' k_lenL ?e ?_); (case e => assumption)) | ((with_reducible refine' k_ixL ?e ?e2 ?_); (case e => assumption); (case e2 => first | assumption | rfl)) | ((with_reducible refine' k_ixT ?e2 ?_); (case e2 => first | assumption | rfl)) | ((with_reducible refine' k_itR ?e ?_); (case e => assumption)))
    have mdD := mdC.trans md4
    have ef4 := lst_old (o := .lst ((svs ys).take k)) (md4.lst ef3 (by omega))
    have lf := alf.length
    refine k_append ef4 (by omega) ?_
    repeat (first
      | with_reducible refine k_seq ?_ | ((with_reducible refine k_then_nx ?_); try dsimp only [put]) | with_reducible refine k_e2 ?_ | ((with_reducible refine' k_var ?e ?_); (case e => rfl)) | with_reducible refine k_const ?_
      | with_reducible refine k_set ?_ | with_reducible refine k_if ?_ | with_reducible refine k_ret ?_ | with_reducible refine k_eL ?_ | with_reducible refine k_aCons ?_ | with_reducible refine k_aNil ?_ | with_reducible refine k_bT ?_ | with_reducible refine k_onB ?_
      | with_reducible refine k_call1 ?_ | with_reducible refine k_call2 ?_ | with_reducible refine k_call3 ?_ | with_reducible refine k_expr ?_ | with_reducible refine k_for ?_ | with_reducible refine k_meth ?_ | with_reducible refine k_sub ?_ | with_reducible refine k_par ?_ | with_reducible refine k_tup ?_
      | with_reducible refine k_iAny ?_ | with_reducible refine k_iRng1 ?_ | with_reducible refine k_iRng2 ?_ | with_reducible refine k_iEnm ?_ | with_reducible refine k_then_rt ?_ | with_reducible refine k_then_bk ?_ | with_reducible refine k_then_ct ?_ | with_reducible refine k_skip ?_ | with_reducible refine k_break ?_ | with_reducible refine k_cont ?_ | with_reducible refine k_retN ?_
      | with_reducible refine k_e1 ?_ | with_reducible refine k_not ?_ | with_reducible refine k_and ?_ | with_reducible refine k_or ?_ | with_reducible refine k_ifE ?_ | with_reducible refine k_chain ?_ | with_reducible refine k_slice ?_ | with_reducible refine k_oN ?_ | with_reducible refine k_oS ?_ | with_reducible refine k_lc ?_
      | with_reducible refine k_bAnd ?_ | with_reducible refine k_bOr ?_ | with_reducible refine k_bNot ?_ | with_reducible refine k_yes ?_ | with_reducible refine k_onI ?_ | with_reducible refine k_onR ?_ | with_reducible refine k_onL1 ?_ | with_reducible refine k_onL2 ?_ | with_reducible refine k_itT ?_ | with_reducible refine k_itS ?_
      | with_reducible refine k_ends_rt ?_ | with_reducible refine k_ends_nx ?_ | with_reducible refine k_true ?_ | with_reducible refine k_false ?_ | with_reducible refine k_ntrue ?_ | with_reducible refine k_nfalse ?_
      | with_reducible refine k_addI ?_ | with_reducible refine k_subI ?_ | with_reducible refine k_intI ?_ | with_reducible refine k_ltI ?_ | with_reducible refine k_gtI ?_ | with_reducible refine k_leI ?_ | with_reducible refine k_geI ?_ | with_reducible refine k_eqI ?_ | with_reducible refine k_neI ?_ | with_reducible refine k_eqS ?_ | with_reducible refine k_neS ?_ | with_reducible refine k_negI ?_ | with_reducible refine k_notB ?_ | with_reducible refine k_maxI ?_ | with_reducible refine k_minI ?_ | with_reducible refine k_lenS ?_
      | ((with_reducible refine k_mulI ?e ?_); (case e => omega)) | ((with_reducible refine k_divI ?e ?e2 ?_); (case e => omega); (case e2 => omega)) | ((with_reducible refine k_modI ?e ?_); (case e => omega)) | ((with_reducible refine k_powI ?e ?_); (case e => decide))
      | ((with_reducible refine k_lst ?e ?_); (case e => first | decide | (simp; done) | (simp; omega))) | ((with_reducible refine k_tupD ?e ?_); (case e => first | decide | (simp; done)))
      | ((with_reducible refine' k_lenL ?e ?_); (case e => assumption)) | ((with_reducible refine' k_ixL ?e ?e2 ?_); (case e => assumption); (case e2 => first | assumption | rfl)) | ((with_reducible refine' k_ixT ?e2 ?_); (case e2 => first | assumption | rfl)) | ((with_reducible refine' k_itR ?e ?_); (case e => assumption)))
    have lenD := mdD.len
    have len3 := mdC.len
    have lenh : h.length < g.length := lst_lt ef
    have leng : g.length ≤ g4.length := Nat.le_trans mdg.len md4.len
    refine ⟨_, _, sets ++ [ys.take k], rfl, mdD.snoc.put (Nat.le_refl _) (by omega), ⟨vf ++ [.ref g4.length], lst_set ef4, ?_⟩, by simp; omega, ?_⟩
    · have stay : ∀ {v zs}, LRF (h.length + 1) (g4 ++ [Ob.lst ((svs ys).take k)]) v zs → LRF (h.length + 1) ((g4 ++ [Ob.lst ((svs ys).take k)]).set h.length (Ob.lst (vf ++ [Pv.ref g4.length]))) v zs := fun {v zs} r => by
        obtain ⟨q1, e1, b1, e2⟩ := r
        exact ⟨q1, e1, b1, lst_ne e2 (by omega)⟩
      refine All2.app (alf.imp fun v zs r => stay ((LRF.mod (mdg.trans md4) r (by omega)).ext Ext.refl.snoc)) (.cons (stay ⟨g4.length, rfl, by omega, ?_⟩) .nil)
      unfold LS
      rw [lst_new, svs, svs, List.map_take]
    · intro zs hz
      rcases List.mem_append.mp hz with hz | hz
      · exact good zs hz
      · simp at hz
        subst hz
        exact good_of_perm_take nd hl pm' k
  · have : i = n := by omega
    subst this
    refine .inl ⟨rfl, by simp [itAt], ?_⟩
    repeat (first
      | with_reducible refine k_seq ?_ | ((with_reducible refine k_then_nx ?_); try dsimp only [put]) | with_reducible refine k_e2 ?_ | ((with_reducible refine' k_var ?e ?_); (case e => rfl)) | with_reducible refine k_const ?_
      | with_reducible refine k_set ?_ | with_reducible refine k_if ?_ | with_reducible refine k_ret ?_ | with_reducible refine k_eL ?_ | with_reducible refine k_aCons ?_ | with_reducible refine k_aNil ?_ | with_reducible refine k_bT ?_ | with_reducible refine k_onB ?_
      | with_reducible refine k_call1 ?_ | with_reducible refine k_call2 ?_ | with_reducible refine k_call3 ?_ | with_reducible refine k_expr ?_ | with_reducible refine k_for ?_ | with_reducible refine k_meth ?_ | with_reducible refine k_sub ?_ | with_reducible refine k_par ?_ | with_reducible refine k_tup ?_
      | with_reducible refine k_iAny ?_ | with_reducible refine k_iRng1 ?_ | with_reducible refine k_iRng2 ?_ | with_reducible refine k_iEnm ?_ | with_reducible refine k_then_rt ?_ | with_reducible refine k_then_bk ?_ | with_reducible refine k_then_ct ?_ | with_reducible refine k_skip ?_ | with_reducible refine k_break ?_ | with_reducible refine k_cont ?_ | with_reducible refine k_retN ?_
      | with_reducible refine k_e1 ?_ | with_reducible refine k_not ?_ | with_reducible refine k_and ?_ | with_reducible refine k_or ?_ | with_reducible refine k_ifE ?_ | with_reducible refine k_chain ?_ | with_reducible refine k_slice ?_ | with_reducible refine k_oN ?_ | with_reducible refine k_oS ?_ | with_reducible refine k_lc ?_
      | with_reducible refine k_bAnd ?_ | with_reducible refine k_bOr ?_ | with_reducible refine k_bNot ?_ | with_reducible refine k_yes ?_ | with_reducible refine k_onI ?_ | with_reducible refine k_onR ?_ | with_reducible refine k_onL1 ?_ | with_reducible refine k_onL2 ?_ | with_reducible refine k_itT ?_ | with_reducible refine k_itS ?_
      | with_reducible refine k_ends_rt ?_ | with_reducible refine k_ends_nx ?_ | with_reducible refine k_true ?_ | with_reducible refine k_false ?_ | with_reducible refine k_ntrue ?_ | with_reducible refine k_nfalse ?_
      | with_reducible refine k_addI ?_ | with_reducible refine k_subI ?_ | with_reducible refine k_intI ?_ | with_reducible refine k_ltI ?_ | with_reducible refine k_gtI ?_ | with_reducible refine k_leI ?_ | with_reducible refine k_geI ?_ | with_reducible refine k_eqI ?_ | with_reducible refine k_neI ?_ | with_reducible refine k_eqS ?_ | with_reducible refine k_neS ?_ | with_reducible refine k_negI ?_ | with_reducible refine k_notB ?_ | with_reducible refine k_maxI ?_ | with_reducible refine k_minI ?_ | with_reducible refine k_lenS ?_
      | ((with_reducible refine k_mulI ?e ?_); (case e => omega)) | ((with_reducible refine k_divI ?e ?e2 ?_); (case e => omega); (case e2 => omega)) | ((with_reducible refine k_modI ?e ?_); (case e => omega)) | ((with_reducible refine k_powI ?e ?_); (case e => decide))
      | ((with_reducible refine k_lst ?e ?_); (case e => first | decide | (simp; done) | (simp; omega))) | ((with_reducible refine k_tupD ?e ?_); (case e => first | decide | (simp; done)))
      | ((with_reducible refine' k_lenL ?e ?_); (case e => assumption)) | ((with_reducible refine' k_ixL ?e ?e2 ?_); (case e => assumption); (case e2 => first | assumption | rfl)) | ((with_reducible refine' k_ixT ?e2 ?_); (case e2 => first | assumption | rfl)) | ((with_reducible refine' k_itR ?e ?_); (case e => assumption)))
    refine (next_sat md.src (by omega) (by omega)).then fun v g1 q => ?_
    obtain ⟨r1, rfl, r10, r11, md1⟩ := q
    have mdA := md.trans md1
    repeat (first
      | with_reducible refine k_seq ?_ | ((with_reducible refine k_then_nx ?_); try dsimp only [put]) | with_reducible refine k_e2 ?_ | ((with_reducible refine' k_var ?e ?_); (case e => rfl)) | with_reducible refine k_const ?_
      | with_reducible refine k_set ?_ | with_reducible refine k_if ?_ | with_reducible refine k_ret ?_ | with_reducible refine k_eL ?_ | with_reducible refine k_aCons ?_ | with_reducible refine k_aNil ?_ | with_reducible refine k_bT ?_ | with_reducible refine k_onB ?_
      | with_reducible refine k_call1 ?_ | with_reducible refine k_call2 ?_ | with_reducible refine k_call3 ?_ | with_reducible refine k_expr ?_ | with_reducible refine k_for ?_ | with_reducible refine k_meth ?_ | with_reducible refine k_sub ?_ | with_reducible refine k_par ?_ | with_reducible refine k_tup ?_
      | with_reducible refine k_iAny ?_ | with_reducible refine k_iRng1 ?_ | with_reducible refine k_iRng2 ?_ | with_reducible refine k_iEnm ?_ | with_reducible refine k_then_rt ?_ | with_reducible refine k_then_bk ?_ | with_reducible refine k_then_ct ?_ | with_reducible refine k_skip ?_ | with_reducible refine k_break ?_ | with_reducible refine k_cont ?_ | with_reducible refine k_retN ?_
      | with_reducible refine k_e1 ?_ | with_reducible refine k_not ?_ | with_reducible refine k_and ?_ | with_reducible refine k_or ?_ | with_reducible refine k_ifE ?_ | with_reducible refine k_chain ?_ | with_reducible refine k_slice ?_ | with_reducible refine k_oN ?_ | with_reducible refine k_oS ?_ | with_reducible refine k_lc ?_
      | with_reducible refine k_bAnd ?_ | with_reducible refine k_bOr ?_ | with_reducible refine k_bNot ?_ | with_reducible refine k_yes ?_ | with_reducible refine k_onI ?_ | with_reducible refine k_onR ?_ | with_reducible refine k_onL1 ?_ | with_reducible refine k_onL2 ?_ | with_reducible refine k_itT ?_ | with_reducible refine k_itS ?_
      | with_reducible refine k_ends_rt ?_ | with_reducible refine k_ends_nx ?_ | with_reducible refine k_true ?_ | with_reducible refine k_false ?_ | with_reducible refine k_ntrue ?_ | with_reducible refine k_nfalse ?_
      | with_reducible refine k_addI ?_ | with_reducible refine k_subI ?_ | with_reducible refine k_intI ?_ | with_reducible refine k_ltI ?_ | with_reducible refine k_gtI ?_ | with_reducible refine k_leI ?_ | with_reducible refine k_geI ?_ | with_reducible refine k_eqI ?_ | with_reducible refine k_neI ?_ | with_reducible refine k_eqS ?_ | with_reducible refine k_neS ?_ | with_reducible refine k_negI ?_ | with_reducible refine k_notB ?_ | with_reducible refine k_maxI ?_ | with_reducible refine k_minI ?_ | with_reducible refine k_lenS ?_
      | ((with_reducible refine k_mulI ?e ?_); (case e => omega)) | ((with_reducible refine k_divI ?e ?e2 ?_); (case e => omega); (case e2 => omega)) | ((with_reducible refine k_modI ?e ?_); (case e => omega)) | ((with_reducible refine k_powI ?e ?_); (case e => decide))
      | ((with_reducible refine k_lst ?e ?_); (case e => first | decide | (simp; done) | (simp; omega))) | ((with_reducible refine k_tupD ?e ?_); (case e => first | decide | (simp; done)))
      | ((with_reducible refine' k_lenL ?e ?_); (case e => assumption)) | ((with_reducible refine' k_ixL ?e ?e2 ?_); (case e => assumption); (case e2 => first | assumption | rfl)) | ((with_reducible refine' k_ixT ?e2 ?_); (case e2 => first | assumption | rfl)) | ((with_reducible refine' k_itR ?e ?_); (case e => assumption)))
    have fin : ∀ (g : Hh) (f : Nat) (sets : List (List Str)) (X1 X2 X3 : XX), Mod a h g → h.length ≤ f → LLF h.length g f sets → sets.length ≤ 60 → (∀ ys ∈ sets, Good xs ys) →
        Sat (d__law_next [.ref a, .int 2] g) (onI fun i h_1 => Sat (Rs.of (slO (.ref f) none (some i) h_1)) (fun y h_2 => Sat (Rs.of (addO (.ref f) y h_2)) (fun v h_3 =>
          Ends' (fun v h' => ∃ q sets, v = .ref q ∧ h.length ≤ q ∧ LLF h.length h' q sets ∧ sets.length ≤ 200 ∧ (∀ ys ∈ sets, Good xs ys) ∧ Mod a h h') NoX (.rt v) h_3) X1) X2) X3 := by
      intro g f sets X1 X2 X3 md hf llf hls good
      obtain ⟨vf, ef, alf⟩ := llf
      have lf := alf.length
      refine (next_sat md.src (by omega) (by omega)).then fun v g1 q => ?_
      obtain ⟨r1, rfl, r10, r11, md1⟩ := q
      obtain ⟨k, rfl⟩ := Int.eq_ofNat_of_zero_le r10
      have ef1 := md1.lst ef (by omega)
      repeat (first
        | with_reducible refine k_seq ?_ | ((with_reducible refine k_then_nx ?_); try dsimp only [put]) | with_reducible refine k_e2 ?_ | ((with_reducible refine' k_var ?e ?_); (case e => rfl)) | with_reducible refine k_const ?_
        | with_reducible refine k_set ?_ | with_reducible refine k_if ?_ | with_reducible refine k_ret ?_ | with_reducible refine k_eL ?_ | with_reducible refine k_aCons ?_ | with_reducible refine k_aNil ?_ | with_reducible refine k_bT ?_ | with_reducible refine k_onB ?_
        | with_reducible refine k_call1 ?_ | with_reducible refine k_call2 ?_ | with_reducible refine k_call3 ?_ | with_reducible refine k_expr ?_ | with_reducible refine k_for ?_ | with_reducible refine k_meth ?_ | with_reducible refine k_sub ?_ | with_reducible refine k_par ?_ | with_reducible refine k_tup ?_
        | with_reducible refine k_iAny ?_ | with_reducible refine k_iRng1 ?_ | with_reducible refine k_iRng2 ?_ | with_reducible refine k_iEnm ?_ | with_reducible refine k_then_rt ?_ | with_reducible refine k_then_bk ?_ | with_reducible refine k_then_ct ?_ | with_reducible refine k_skip ?_ | with_reducible refine k_break ?_ | with_reducible refine k_cont ?_ | with_reducible refine k_retN ?_
        | with_reducible refine k_e1 ?_ | with_reducible refine k_not ?_ | with_reducible refine k_and ?_ | with_reducible refine k_or ?_ | with_reducible refine k_ifE ?_ | with_reducible refine k_chain ?_ | with_reducible refine k_slice ?_ | with_reducible refine k_oN ?_ | with_reducible refine k_oS ?_ | with_reducible refine k_lc ?_
        | with_reducible refine k_bAnd ?_ | with_reducible refine k_bOr ?_ | with_reducible refine k_bNot ?_ | with_reducible refine k_yes ?_ | with_reducible refine k_onI ?_ | with_reducible refine k_onR ?_ | with_reducible refine k_onL1 ?_ | with_reducible refine k_onL2 ?_ | with_reducible refine k_itT ?_ | with_reducible refine k_itS ?_
        | with_reducible refine k_ends_rt ?_ | with_reducible refine k_ends_nx ?_ | with_reducible refine k_true ?_ | with_reducible refine k_false ?_ | with_reducible refine k_ntrue ?_ | with_reducible refine k_nfalse ?_
        | with_reducible refine k_addI ?_ | with_reducible refine k_subI ?_ | with_reducible refine k_intI ?_ | with_reducible refine k_ltI ?_ | with_reducible refine k_gtI ?_ | with_reducible refine k_leI ?_ | with_reducible refine k_geI ?_ | with_reducible refine k_eqI ?_ | with_reducible refine k_neI ?_ | with_reducible refine k_eqS ?_ | with_reducible refine k_neS ?_ | with_reducible refine k_negI ?_ | with_reducible refine k_notB ?_ | with_reducible refine k_maxI ?_ | with_reducible refine k_minI ?_ | with_reducible refine k_lenS ?_
        | ((with_reducible refine k_mulI ?e ?_); (case e => omega)) | ((with_reducible refine k_divI ?e ?e2 ?_); (case e => omega); (case e2 => omega)) | ((with_reducible refine k_modI ?e ?_); (case e => omega)) | ((with_reducible refine k_powI ?e ?_); (case e => decide))
        | ((with_reducible refine k_lst ?e ?_); (case e => first | decide | (simp; done) | (simp; omega))) | ((with_reducible refine k_tupD ?e ?_); (case e => first | decide | (simp; done)))
        | ((with_reducible refine' k_lenL ?e ?_); (case e => assumption)) | ((with_reducible refine' k_ixL ?e ?e2 ?_); (case e => assumption); (case e2 => first | assumption | rfl)) | ((with_reducible refine' k_ixT ?e2 ?_); (case e2 => first | assumption | rfl)) | ((with_reducible refine' k_itR ?e ?_); (case e => assumption)))
      refine k_slL ef1 ?_
      rw [cut_to]
      repeat (first
        | with_reducible refine k_seq ?_ | ((with_reducible refine k_then_nx ?_); try dsimp only [put]) | with_reducible refine k_e2 ?_ | ((with_reducible refine' k_var ?e ?_); (case e => rfl)) | with_reducible refine k_const ?_
        | with_reducible refine k_set ?_ | with_reducible refine k_if ?_ | with_reducible refine k_ret ?_ | with_reducible refine k_eL ?_ | with_reducible refine k_aCons ?_ | with_reducible refine k_aNil ?_ | with_reducible refine k_bT ?_ | with_reducible refine k_onB ?_
        | with_reducible refine k_call1 ?_ | with_reducible refine k_call2 ?_ | with_reducible refine k_call3 ?_ | with_reducible refine k_expr ?_ | with_reducible refine k_for ?_ | with_reducible refine k_meth ?_ | with_reducible refine k_sub ?_ | with_reducible refine k_par ?_ | with_reducible refine k_tup ?_
        | with_reducible refine k_iAny ?_ | with_reducible refine k_iRng1 ?_ | with_reducible refine k_iRng2 ?_ | with_reducible refine k_iEnm ?_ | with_reducible refine k_then_rt ?_ | with_reducible refine k_then_bk ?_ | with_reducible refine k_then_ct ?_ | with_reducible refine k_skip ?_ | with_reducible refine k_break ?_ | with_reducible refine k_cont ?_ | with_reducible refine k_retN ?_
        | with_reducible refine k_e1 ?_ | with_reducible refine k_not ?_ | with_reducible refine k_and ?_ | with_reducible refine k_or ?_ | with_reducible refine k_ifE ?_ | with_reducible refine k_chain ?_ | with_reducible refine k_slice ?_ | with_reducible refine k_oN ?_ | with_reducible refine k_oS ?_ | with_reducible refine k_lc ?_
        | with_reducible refine k_bAnd ?_ | with_reducible refine k_bOr ?_ | with_reducible refine k_bNot ?_ | with_reducible refine k_yes ?_ | with_reducible refine k_onI ?_ | with_reducible refine k_onR ?_ | with_reducible refine k_onL1 ?_ | with_reducible refine k_onL2 ?_ | with_reducible refine k_itT ?_ | with_reducible refine k_itS ?_
        | with_reducible refine k_ends_rt ?_ | with_reducible refine k_ends_nx ?_ | with_reducible refine k_true ?_ | with_reducible refine k_false ?_ | with_reducible refine k_ntrue ?_ | with_reducible refine k_nfalse ?_
        | with_reducible refine k_addI ?_ | with_reducible refine k_subI ?_ | with_reducible refine k_intI ?_ | with_reducible refine k_ltI ?_ | with_reducible refine k_gtI ?_ | with_reducible refine k_leI ?_ | with_reducible refine k_geI ?_ | with_reducible refine k_eqI ?_ | with_reducible refine k_neI ?_ | with_reducible refine k_eqS ?_ | with_reducible refine k_neS ?_ | with_reducible refine k_negI ?_ | with_reducible refine k_notB ?_ | with_reducible refine k_maxI ?_ | with_reducible refine k_minI ?_ | with_reducible refine k_lenS ?_
        | ((with_reducible refine k_mulI ?e ?_); (case e => omega)) | ((with_reducible refine k_divI ?e ?e2 ?_); (case e => omega); (case e2 => omega)) | ((with_reducible refine k_modI ?e ?_); (case e => omega)) | ((with_reducible refine k_powI ?e ?_); (case e => decide))
        | ((with_reducible refine k_lst ?e ?_); (case e => first | decide | (simp; done) | (simp; omega))) | ((with_reducible refine k_tupD ?e ?_); (case e => first | decide | (simp; done)))
        | ((with_reducible refine' k_lenL ?e ?_); (case e => assumption)) | ((with_reducible refine' k_ixL ?e ?e2 ?_); (case e => assumption); (case e2 => first | assumption | rfl)) | ((with_reducible refine' k_ixT ?e2 ?_); (case e2 => first | assumption | rfl)) | ((with_reducible refine' k_itR ?e ?_); (case e => assumption)))
      refine k_addL (lst_old ef1) lst_new (by simp; omega) ?_
      repeat (first
        | with_reducible refine k_seq ?_ | ((with_reducible refine k_then_nx ?_); try dsimp only [put]) | with_reducible refine k_e2 ?_ | ((with_reducible refine' k_var ?e ?_); (case e => rfl)) | with_reducible refine k_const ?_
        | with_reducible refine k_set ?_ | with_reducible refine k_if ?_ | with_reducible refine k_ret ?_ | with_reducible refine k_eL ?_ | with_reducible refine k_aCons ?_ | with_reducible refine k_aNil ?_ | with_reducible refine k_bT ?_ | with_reducible refine k_onB ?_
        | with_reducible refine k_call1 ?_ | with_reducible refine k_call2 ?_ | with_reducible refine k_call3 ?_ | with_reducible refine k_expr ?_ | with_reducible refine k_for ?_ | with_reducible refine k_meth ?_ | with_reducible refine k_sub ?_ | with_reducible refine k_par ?_ | with_reducible refine k_tup ?_
        | with_reducible refine k_iAny ?_ | with_reducible refine k_iRng1 ?_ | with_reducible refine k_iRng2 ?_ | with_reducible refine k_iEnm ?_ | with_reducible refine k_then_rt ?_ | with_reducible refine k_then_bk ?_ | with_reducible refine k_then_ct ?_ | with_reducible refine k_skip ?_ | with_reducible refine k_break ?_ | with_reducible refine k_cont ?_ | with_reducible refine k_retN ?_
        | with_reducible refine k_e1 ?_ | with_reducible refine k_not ?_ | with_reducible refine k_and ?_ | with_reducible refine k_or ?_ | with_reducible refine k_ifE ?_ | with_reducible refine k_chain ?_ | with_reducible refine k_slice ?_ | with_reducible refine k_oN ?_ | with_reducible refine k_oS ?_ | with_reducible refine k_lc ?_
        | with_reducible refine k_bAnd ?_ | with_reducible refine k_bOr ?_ | with_reducible refine k_bNot ?_ | with_reducible refine k_yes ?_ | with_reducible refine k_onI ?_ | with_reducible refine k_onR ?_ | with_reducible refine k_onL1 ?_ | with_reducible refine k_onL2 ?_ | with_reducible refine k_itT ?_ | with_reducible refine k_itS ?_
        | with_reducible refine k_ends_rt ?_ | with_reducible refine k_ends_nx ?_ | with_reducible refine k_true ?_ | with_reducible refine k_false ?_ | with_reducible refine k_ntrue ?_ | with_reducible refine k_nfalse ?_
        | with_reducible refine k_addI ?_ | with_reducible refine k_subI ?_ | with_reducible refine k_intI ?_ | with_reducible refine k_ltI ?_ | with_reducible refine k_gtI ?_ | with_reducible refine k_leI ?_ | with_reducible refine k_geI ?_ | with_reducible refine k_eqI ?_ | with_reducible refine k_neI ?_ | with_reducible refine k_eqS ?_ | with_reducible refine k_neS ?_ | with_reducible refine k_negI ?_ | with_reducible refine k_notB ?_ | with_reducible refine k_maxI ?_ | with_reducible refine k_minI ?_ | with_reducible refine k_lenS ?_
        | ((with_reducible refine k_mulI ?e ?_); (case e => omega)) | ((with_reducible refine k_divI ?e ?e2 ?_); (case e => omega); (case e2 => omega)) | ((with_reducible refine k_modI ?e ?_); (case e => omega)) | ((with_reducible refine k_powI ?e ?_); (case e => decide))
        | ((with_reducible refine k_lst ?e ?_); (case e => first | decide | (simp; done) | (simp; omega))) | ((with_reducible refine k_tupD ?e ?_); (case e => first | decide | (simp; done)))
        | ((with_reducible refine' k_lenL ?e ?_); (case e => assumption)) | ((with_reducible refine' k_ixL ?e ?e2 ?_); (case e => assumption); (case e2 => first | assumption | rfl)) | ((with_reducible refine' k_ixT ?e2 ?_); (case e2 => first | assumption | rfl)) | ((with_reducible refine' k_itR ?e ?_); (case e => assumption)))
      have mdE := ((md.trans md1).snoc (o := .lst (vf.take k))).snoc (o := .lst (vf ++ vf.take k))
      have l1 := md.len
      have l2 := md1.len
      have up : ∀ {v zs}, LRF h.length g v zs → LRF h.length (g1 ++ [Ob.lst (vf.take k)] ++ [Ob.lst (vf ++ vf.take k)]) v zs := fun {v zs} r => ((LRF.mod md1 r alt).ext Ext.refl.snoc).ext Ext.refl.snoc
      refine ⟨_, sets ++ sets.take k, rfl, by simp; omega, ⟨_, lst_new, All2.app (alf.imp fun v zs r => up r) ((alf.take k).imp fun v zs r => up r)⟩, by simp; omega, ?_, mdE⟩
      intro ys hy
      rcases List.mem_append.mp hy with hy | hy
      · exact good ys hy
      · exact good ys (List.mem_of_mem_take hy)
    refine k_dec (fun hz => ?_) fun hnz => ?_
    · have ep1 : LS g1 p xs := mdA.lst ep pa
      repeat (first
        | with_reducible refine k_seq ?_ | ((with_reducible refine k_then_nx ?_); try dsimp only [put]) | with_reducible refine k_e2 ?_ | ((with_reducible refine' k_var ?e ?_); (case e => rfl)) | with_reducible refine k_const ?_
        | with_reducible refine k_set ?_ | with_reducible refine k_if ?_ | with_reducible refine k_ret ?_ | with_reducible refine k_eL ?_ | with_reducible refine k_aCons ?_ | with_reducible refine k_aNil ?_ | with_reducible refine k_bT ?_ | with_reducible refine k_onB ?_
        | with_reducible refine k_call1 ?_ | with_reducible refine k_call2 ?_ | with_reducible refine k_call3 ?_ | with_reducible refine k_expr ?_ | with_reducible refine k_for ?_ | with_reducible refine k_meth ?_ | with_reducible refine k_sub ?_ | with_reducible refine k_par ?_ | with_reducible refine k_tup ?_
        | with_reducible refine k_iAny ?_ | with_reducible refine k_iRng1 ?_ | with_reducible refine k_iRng2 ?_ | with_reducible refine k_iEnm ?_ | with_reducible refine k_then_rt ?_ | with_reducible refine k_then_bk ?_ | with_reducible refine k_then_ct ?_ | with_reducible refine k_skip ?_ | with_reducible refine k_break ?_ | with_reducible refine k_cont ?_ | with_reducible refine k_retN ?_
        | with_reducible refine k_e1 ?_ | with_reducible refine k_not ?_ | with_reducible refine k_and ?_ | with_reducible refine k_or ?_ | with_reducible refine k_ifE ?_ | with_reducible refine k_chain ?_ | with_reducible refine k_slice ?_ | with_reducible refine k_oN ?_ | with_reducible refine k_oS ?_ | with_reducible refine k_lc ?_
        | with_reducible refine k_bAnd ?_ | with_reducible refine k_bOr ?_ | with_reducible refine k_bNot ?_ | with_reducible refine k_yes ?_ | with_reducible refine k_onI ?_ | with_reducible refine k_onR ?_ | with_reducible refine k_onL1 ?_ | with_reducible refine k_onL2 ?_ | with_reducible refine k_itT ?_ | with_reducible refine k_itS ?_
        | with_reducible refine k_ends_rt ?_ | with_reducible refine k_ends_nx ?_ | with_reducible refine k_true ?_ | with_reducible refine k_false ?_ | with_reducible refine k_ntrue ?_ | with_reducible refine k_nfalse ?_
        | with_reducible refine k_addI ?_ | with_reducible refine k_subI ?_ | with_reducible refine k_intI ?_ | with_reducible refine k_ltI ?_ | with_reducible refine k_gtI ?_ | with_reducible refine k_leI ?_ | with_reducible refine k_geI ?_ | with_reducible refine k_eqI ?_ | with_reducible refine k_neI ?_ | with_reducible refine k_eqS ?_ | with_reducible refine k_neS ?_ | with_reducible refine k_negI ?_ | with_reducible refine k_notB ?_ | with_reducible refine k_maxI ?_ | with_reducible refine k_minI ?_ | with_reducible refine k_lenS ?_
        | ((with_reducible refine k_mulI ?e ?_); (case e => omega)) | ((with_reducible refine k_divI ?e ?e2 ?_); (case e => omega); (case e2 => omega)) | ((with_reducible refine k_modI ?e ?_); (case e => omega)) | ((with_reducible refine k_powI ?e ?_); (case e => decide))
        | ((with_reducible refine k_lst ?e ?_); (case e => first | decide | (simp; done) | (simp; omega))) | ((with_reducible refine k_tupD ?e ?_); (case e => first | decide | (simp; done)))
        | ((with_reducible refine' k_lenL ?e ?_); (case e => assumption)) | ((with_reducible refine' k_ixL ?e ?e2 ?_); (case e => assumption); (case e2 => first | assumption | rfl)) | ((with_reducible refine' k_ixT ?e2 ?_); (case e2 => first | assumption | rfl)) | ((with_reducible refine' k_itR ?e ?_); (case e => assumption)))
      refine k_listL ep1 ?_
      repeat (first
        | with_reducible refine k_seq ?_ | ((with_reducible refine k_then_nx ?_); try dsimp only [put]) | with_reducible refine k_e2 ?_ | ((with_reducible refine' k_var ?e ?_); (case e => rfl)) | with_reducible refine k_const ?_
        | with_reducible refine k_set ?_ | with_reducible refine k_if ?_ | with_reducible refine k_ret ?_ | with_reducible refine k_eL ?_ | with_reducible refine k_aCons ?_ | with_reducible refine k_aNil ?_ | with_reducible refine k_bT ?_ | with_reducible refine k_onB ?_
        | with_reducible refine k_call1 ?_ | with_reducible refine k_call2 ?_ | with_reducible refine k_call3 ?_ | with_reducible refine k_expr ?_ | with_reducible refine k_for ?_ | with_reducible refine k_meth ?_ | with_reducible refine k_sub ?_ | with_reducible refine k_par ?_ | with_reducible refine k_tup ?_
        | with_reducible refine k_iAny ?_ | with_reducible refine k_iRng1 ?_ | with_reducible refine k_iRng2 ?_ | with_reducible refine k_iEnm ?_ | with_reducible refine k_then_rt ?_ | with_reducible refine k_then_bk ?_ | with_reducible refine k_then_ct ?_ | with_reducible refine k_skip ?_ | with_reducible refine k_break ?_ | with_reducible refine k_cont ?_ | with_reducible refine k_retN ?_
        | with_reducible refine k_e1 ?_ | with_reducible refine k_not ?_ | with_reducible refine k_and ?_ | with_reducible refine k_or ?_ | with_reducible refine k_ifE ?_ | with_reducible refine k_chain ?_ | with_reducible refine k_slice ?_ | with_reducible refine k_oN ?_ | with_reducible refine k_oS ?_ | with_reducible refine k_lc ?_
        | with_reducible refine k_bAnd ?_ | with_reducible refine k_bOr ?_ | with_reducible refine k_bNot ?_ | with_reducible refine k_yes ?_ | with_reducible refine k_onI ?_ | with_reducible refine k_onR ?_ | with_reducible refine k_onL1 ?_ | with_reducible refine k_onL2 ?_ | with_reducible refine k_itT ?_ | with_reducible refine k_itS ?_
        | with_reducible refine k_ends_rt ?_ | with_reducible refine k_ends_nx ?_ | with_reducible refine k_true ?_ | with_reducible refine k_false ?_ | with_reducible refine k_ntrue ?_ | with_reducible refine k_nfalse ?_
        | with_reducible refine k_addI ?_ | with_reducible refine k_subI ?_ | with_reducible refine k_intI ?_ | with_reducible refine k_ltI ?_ | with_reducible refine k_gtI ?_ | with_reducible refine k_leI ?_ | with_reducible refine k_geI ?_ | with_reducible refine k_eqI ?_ | with_reducible refine k_neI ?_ | with_reducible refine k_eqS ?_ | with_reducible refine k_neS ?_ | with_reducible refine k_negI ?_ | with_reducible refine k_notB ?_ | with_reducible refine k_maxI ?_ | with_reducible refine k_minI ?_ | with_reducible refine k_lenS ?_
        | ((with_reducible refine k_mulI ?e ?_); (case e => omega)) | ((with_reducible refine k_divI ?e ?e2 ?_); (case e => omega); (case e2 => omega)) | ((with_reducible refine k_modI ?e ?_); (case e => omega)) | ((with_reducible refine k_powI ?e ?_); (case e => decide))
        | ((with_reducible refine k_lst ?e ?_); (case e => first | decide | (simp; done) | (simp; omega))) | ((with_reducible refine k_tupD ?e ?_); (case e => first | decide | (simp; done)))
        | ((with_reducible refine' k_lenL ?e ?_); (case e => assumption)) | ((with_reducible refine' k_ixL ?e ?e2 ?_); (case e => assumption); (case e2 => first | assumption | rfl)) | ((with_reducible refine' k_ixT ?e2 ?_); (case e2 => first | assumption | rfl)) | ((with_reducible refine' k_itR ?e ?_); (case e => assumption)))
      try refine k_itR (lst_old (lst_old ep1)) ?_
      have ep2 : LS (g1 ++ [.lst (svs xs)] ++ [.lst [.ref g1.length]]) p xs := lst_old (lst_old ep1)
      have lg1 : (g1 ++ [Ob.lst (svs xs)] ++ [Ob.lst [Pv.ref g1.length]]).length = g1.length + 2 := by simp
      refine st_lcL (fun _ => true) (fun h x v => ∃ q', v = .ref q' ∧ g1.length + 2 < q' ∧ ∀ z, x = .str z → LS h q' (xs.filter fun y => !decide (y = z))) ep2 (by simp [svs]; omega) ?_ ?_ ?_
      · intro h h' x v r bey
        obtain ⟨q', e1, lt, f⟩ := r
        exact ⟨q', e1, lt, fun z e2 => bey.lst (f z e2) (by rw [lg1]; omega)⟩
      · intro x g2 hx xt lt
        simp only [svs, List.mem_map] at hx
        obtain ⟨z, hz, rfl⟩ := hx
        refine ⟨_, rfl, k_yes ⟨rfl, Ext.refl, fun _ => ?_⟩⟩
        have ep3 := ep2.ext xt
        repeat (first
          | with_reducible refine k_seq ?_ | ((with_reducible refine k_then_nx ?_); try dsimp only [put]) | with_reducible refine k_e2 ?_ | ((with_reducible refine' k_var ?e ?_); (case e => rfl)) | with_reducible refine k_const ?_
          | with_reducible refine k_set ?_ | with_reducible refine k_if ?_ | with_reducible refine k_ret ?_ | with_reducible refine k_eL ?_ | with_reducible refine k_aCons ?_ | with_reducible refine k_aNil ?_ | with_reducible refine k_bT ?_ | with_reducible refine k_onB ?_
          | with_reducible refine k_call1 ?_ | with_reducible refine k_call2 ?_ | with_reducible refine k_call3 ?_ | with_reducible refine k_expr ?_ | with_reducible refine k_for ?_ | with_reducible refine k_meth ?_ | with_reducible refine k_sub ?_ | with_reducible refine k_par ?_ | with_reducible refine k_tup ?_
          | with_reducible refine k_iAny ?_ | with_reducible refine k_iRng1 ?_ | with_reducible refine k_iRng2 ?_ | with_reducible refine k_iEnm ?_ | with_reducible refine k_then_rt ?_ | with_reducible refine k_then_bk ?_ | with_reducible refine k_then_ct ?_ | with_reducible refine k_skip ?_ | with_reducible refine k_break ?_ | with_reducible refine k_cont ?_ | with_reducible refine k_retN ?_
          | with_reducible refine k_e1 ?_ | with_reducible refine k_not ?_ | with_reducible refine k_and ?_ | with_reducible refine k_or ?_ | with_reducible refine k_ifE ?_ | with_reducible refine k_chain ?_ | with_reducible refine k_slice ?_ | with_reducible refine k_oN ?_ | with_reducible refine k_oS ?_ | with_reducible refine k_lc ?_
          | with_reducible refine k_bAnd ?_ | with_reducible refine k_bOr ?_ | with_reducible refine k_bNot ?_ | with_reducible refine k_yes ?_ | with_reducible refine k_onI ?_ | with_reducible refine k_onR ?_ | with_reducible refine k_onL1 ?_ | with_reducible refine k_onL2 ?_ | with_reducible refine k_itT ?_ | with_reducible refine k_itS ?_
          | with_reducible refine k_ends_rt ?_ | with_reducible refine k_ends_nx ?_ | with_reducible refine k_true ?_ | with_reducible refine k_false ?_ | with_reducible refine k_ntrue ?_ | with_reducible refine k_nfalse ?_
          | with_reducible refine k_addI ?_ | with_reducible refine k_subI ?_ | with_reducible refine k_intI ?_ | with_reducible refine k_ltI ?_ | with_reducible refine k_gtI ?_ | with_reducible refine k_leI ?_ | with_reducible refine k_geI ?_ | with_reducible refine k_eqI ?_ | with_reducible refine k_neI ?_ | with_reducible refine k_eqS ?_ | with_reducible refine k_neS ?_ | with_reducible refine k_negI ?_ | with_reducible refine k_notB ?_ | with_reducible refine k_maxI ?_ | with_reducible refine k_minI ?_ | with_reducible refine k_lenS ?_
          | ((with_reducible refine k_mulI ?e ?_); (case e => omega)) | ((with_reducible refine k_divI ?e ?e2 ?_); (case e => omega); (case e2 => omega)) | ((with_reducible refine k_modI ?e ?_); (case e => omega)) | ((with_reducible refine k_powI ?e ?_); (case e => decide))
          | ((with_reducible refine k_lst ?e ?_); (case e => first | decide | (simp; done) | (simp; omega))) | ((with_reducible refine k_tupD ?e ?_); (case e => first | decide | (simp; done)))
          | ((with_reducible refine' k_lenL ?e ?_); (case e => assumption)) | ((with_reducible refine' k_ixL ?e ?e2 ?_); (case e => assumption); (case e2 => first | assumption | rfl)) | ((with_reducible refine' k_ixT ?e2 ?_); (case e2 => first | assumption | rfl)) | ((with_reducible refine' k_itR ?e ?_); (case e => assumption)))
        try refine k_itR ep3 ?_
        refine st_lcL (fun v => match v with | .str y => !decide (y = z) | _ => false) (fun h x v => v = x) ep3 (by simp [svs]; omega) (fun _ _ _ _ r _ => r) ?_ ?_
        · intro x g3 hx xt lt
          simp only [svs, List.mem_map] at hx
          obtain ⟨y, hy, rfl⟩ := hx
          refine ⟨_, rfl, ?_⟩
          repeat (first
            | with_reducible refine k_seq ?_ | ((with_reducible refine k_then_nx ?_); try dsimp only [put]) | with_reducible refine k_e2 ?_ | ((with_reducible refine' k_var ?e ?_); (case e => rfl)) | with_reducible refine k_const ?_
            | with_reducible refine k_set ?_ | with_reducible refine k_if ?_ | with_reducible refine k_ret ?_ | with_reducible refine k_eL ?_ | with_reducible refine k_aCons ?_ | with_reducible refine k_aNil ?_ | with_reducible refine k_bT ?_ | with_reducible refine k_onB ?_
            | with_reducible refine k_call1 ?_ | with_reducible refine k_call2 ?_ | with_reducible refine k_call3 ?_ | with_reducible refine k_expr ?_ | with_reducible refine k_for ?_ | with_reducible refine k_meth ?_ | with_reducible refine k_sub ?_ | with_reducible refine k_par ?_ | with_reducible refine k_tup ?_
            | with_reducible refine k_iAny ?_ | with_reducible refine k_iRng1 ?_ | with_reducible refine k_iRng2 ?_ | with_reducible refine k_iEnm ?_ | with_reducible refine k_then_rt ?_ | with_reducible refine k_then_bk ?_ | with_reducible refine k_then_ct ?_ | with_reducible refine k_skip ?_ | with_reducible refine k_break ?_ | with_reducible refine k_cont ?_ | with_reducible refine k_retN ?_
            | with_reducible refine k_e1 ?_ | with_reducible refine k_not ?_ | with_reducible refine k_and ?_ | with_reducible refine k_or ?_ | with_reducible refine k_ifE ?_ | with_reducible refine k_chain ?_ | with_reducible refine k_slice ?_ | with_reducible refine k_oN ?_ | with_reducible refine k_oS ?_ | with_reducible refine k_lc ?_
            | with_reducible refine k_bAnd ?_ | with_reducible refine k_bOr ?_ | with_reducible refine k_bNot ?_ | with_reducible refine k_yes ?_ | with_reducible refine k_onI ?_ | with_reducible refine k_onR ?_ | with_reducible refine k_onL1 ?_ | with_reducible refine k_onL2 ?_ | with_reducible refine k_itT ?_ | with_reducible refine k_itS ?_
            | with_reducible refine k_ends_rt ?_ | with_reducible refine k_ends_nx ?_ | with_reducible refine k_true ?_ | with_reducible refine k_false ?_ | with_reducible refine k_ntrue ?_ | with_reducible refine k_nfalse ?_
            | with_reducible refine k_addI ?_ | with_reducible refine k_subI ?_ | with_reducible refine k_intI ?_ | with_reducible refine k_ltI ?_ | with_reducible refine k_gtI ?_ | with_reducible refine k_leI ?_ | with_reducible refine k_geI ?_ | with_reducible refine k_eqI ?_ | with_reducible refine k_neI ?_ | with_reducible refine k_eqS ?_ | with_reducible refine k_neS ?_ | with_reducible refine k_negI ?_ | with_reducible refine k_notB ?_ | with_reducible refine k_maxI ?_ | with_reducible refine k_minI ?_ | with_reducible refine k_lenS ?_
            | ((with_reducible refine k_mulI ?e ?_); (case e => omega)) | ((with_reducible refine k_divI ?e ?e2 ?_); (case e => omega); (case e2 => omega)) | ((with_reducible refine k_modI ?e ?_); (case e => omega)) | ((with_reducible refine k_powI ?e ?_); (case e => decide))
            | ((with_reducible refine k_lst ?e ?_); (case e => first | decide | (simp; done) | (simp; omega))) | ((with_reducible refine k_tupD ?e ?_); (case e => first | decide | (simp; done)))
            | ((with_reducible refine' k_lenL ?e ?_); (case e => assumption)) | ((with_reducible refine' k_ixL ?e ?e2 ?_); (case e => assumption); (case e2 => first | assumption | rfl)) | ((with_reducible refine' k_ixT ?e2 ?_); (case e2 => first | assumption | rfl)) | ((with_reducible refine' k_itR ?e ?_); (case e => assumption)))
          refine ⟨rfl, Ext.refl, fun _ => ?_⟩
          repeat (first
            | with_reducible refine k_seq ?_ | ((with_reducible refine k_then_nx ?_); try dsimp only [put]) | with_reducible refine k_e2 ?_ | ((with_reducible refine' k_var ?e ?_); (case e => rfl)) | with_reducible refine k_const ?_
            | with_reducible refine k_set ?_ | with_reducible refine k_if ?_ | with_reducible refine k_ret ?_ | with_reducible refine k_eL ?_ | with_reducible refine k_aCons ?_ | with_reducible refine k_aNil ?_ | with_reducible refine k_bT ?_ | with_reducible refine k_onB ?_
            | with_reducible refine k_call1 ?_ | with_reducible refine k_call2 ?_ | with_reducible refine k_call3 ?_ | with_reducible refine k_expr ?_ | with_reducible refine k_for ?_ | with_reducible refine k_meth ?_ | with_reducible refine k_sub ?_ | with_reducible refine k_par ?_ | with_reducible refine k_tup ?_
            | with_reducible refine k_iAny ?_ | with_reducible refine k_iRng1 ?_ | with_reducible refine k_iRng2 ?_ | with_reducible refine k_iEnm ?_ | with_reducible refine k_then_rt ?_ | with_reducible refine k_then_bk ?_ | with_reducible refine k_then_ct ?_ | with_reducible refine k_skip ?_ | with_reducible refine k_break ?_ | with_reducible refine k_cont ?_ | with_reducible refine k_retN ?_
            | with_reducible refine k_e1 ?_ | with_reducible refine k_not ?_ | with_reducible refine k_and ?_ | with_reducible refine k_or ?_ | with_reducible refine k_ifE ?_ | with_reducible refine k_chain ?_ | with_reducible refine k_slice ?_ | with_reducible refine k_oN ?_ | with_reducible refine k_oS ?_ | with_reducible refine k_lc ?_
            | with_reducible refine k_bAnd ?_ | with_reducible refine k_bOr ?_ | with_reducible refine k_bNot ?_ | with_reducible refine k_yes ?_ | with_reducible refine k_onI ?_ | with_reducible refine k_onR ?_ | with_reducible refine k_onL1 ?_ | with_reducible refine k_onL2 ?_ | with_reducible refine k_itT ?_ | with_reducible refine k_itS ?_
            | with_reducible refine k_ends_rt ?_ | with_reducible refine k_ends_nx ?_ | with_reducible refine k_true ?_ | with_reducible refine k_false ?_ | with_reducible refine k_ntrue ?_ | with_reducible refine k_nfalse ?_
            | with_reducible refine k_addI ?_ | with_reducible refine k_subI ?_ | with_reducible refine k_intI ?_ | with_reducible refine k_ltI ?_ | with_reducible refine k_gtI ?_ | with_reducible refine k_leI ?_ | with_reducible refine k_geI ?_ | with_reducible refine k_eqI ?_ | with_reducible refine k_neI ?_ | with_reducible refine k_eqS ?_ | with_reducible refine k_neS ?_ | with_reducible refine k_negI ?_ | with_reducible refine k_notB ?_ | with_reducible refine k_maxI ?_ | with_reducible refine k_minI ?_ | with_reducible refine k_lenS ?_
            | ((with_reducible refine k_mulI ?e ?_); (case e => omega)) | ((with_reducible refine k_divI ?e ?e2 ?_); (case e => omega); (case e2 => omega)) | ((with_reducible refine k_modI ?e ?_); (case e => omega)) | ((with_reducible refine k_powI ?e ?_); (case e => decide))
            | ((with_reducible refine k_lst ?e ?_); (case e => first | decide | (simp; done) | (simp; omega))) | ((with_reducible refine k_tupD ?e ?_); (case e => first | decide | (simp; done)))
            | ((with_reducible refine' k_lenL ?e ?_); (case e => assumption)) | ((with_reducible refine' k_ixL ?e ?e2 ?_); (case e => assumption); (case e2 => first | assumption | rfl)) | ((with_reducible refine' k_ixT ?e2 ?_); (case e2 => first | assumption | rfl)) | ((with_reducible refine' k_itR ?e ?_); (case e => assumption)))
          exact ⟨rfl, Ext.refl⟩
        · intro g3 vs xt1 lt1 e al
          refine ⟨⟨_, rfl, by omega, fun z2 e2 => ?_⟩, xt1⟩
          cases e2
          have := al.fn (f := fun x => x)
          unfold LS
          rw [e, this, List.map_id', svs, List.filter_map]
          rfl
      · intro g2 vs xt lt e al
        rw [List.filter_eq_self.mpr (fun _ _ => rfl)] at al
        have lv := al.length
        repeat (first
          | with_reducible refine k_seq ?_ | ((with_reducible refine k_then_nx ?_); try dsimp only [put]) | with_reducible refine k_e2 ?_ | ((with_reducible refine' k_var ?e ?_); (case e => rfl)) | with_reducible refine k_const ?_
          | with_reducible refine k_set ?_ | with_reducible refine k_if ?_ | with_reducible refine k_ret ?_ | with_reducible refine k_eL ?_ | with_reducible refine k_aCons ?_ | with_reducible refine k_aNil ?_ | with_reducible refine k_bT ?_ | with_reducible refine k_onB ?_
          | with_reducible refine k_call1 ?_ | with_reducible refine k_call2 ?_ | with_reducible refine k_call3 ?_ | with_reducible refine k_expr ?_ | with_reducible refine k_for ?_ | with_reducible refine k_meth ?_ | with_reducible refine k_sub ?_ | with_reducible refine k_par ?_ | with_reducible refine k_tup ?_
          | with_reducible refine k_iAny ?_ | with_reducible refine k_iRng1 ?_ | with_reducible refine k_iRng2 ?_ | with_reducible refine k_iEnm ?_ | with_reducible refine k_then_rt ?_ | with_reducible refine k_then_bk ?_ | with_reducible refine k_then_ct ?_ | with_reducible refine k_skip ?_ | with_reducible refine k_break ?_ | with_reducible refine k_cont ?_ | with_reducible refine k_retN ?_
          | with_reducible refine k_e1 ?_ | with_reducible refine k_not ?_ | with_reducible refine k_and ?_ | with_reducible refine k_or ?_ | with_reducible refine k_ifE ?_ | with_reducible refine k_chain ?_ | with_reducible refine k_slice ?_ | with_reducible refine k_oN ?_ | with_reducible refine k_oS ?_ | with_reducible refine k_lc ?_
          | with_reducible refine k_bAnd ?_ | with_reducible refine k_bOr ?_ | with_reducible refine k_bNot ?_ | with_reducible refine k_yes ?_ | with_reducible refine k_onI ?_ | with_reducible refine k_onR ?_ | with_reducible refine k_onL1 ?_ | with_reducible refine k_onL2 ?_ | with_reducible refine k_itT ?_ | with_reducible refine k_itS ?_
          | with_reducible refine k_ends_rt ?_ | with_reducible refine k_ends_nx ?_ | with_reducible refine k_true ?_ | with_reducible refine k_false ?_ | with_reducible refine k_ntrue ?_ | with_reducible refine k_nfalse ?_
          | with_reducible refine k_addI ?_ | with_reducible refine k_subI ?_ | with_reducible refine k_intI ?_ | with_reducible refine k_ltI ?_ | with_reducible refine k_gtI ?_ | with_reducible refine k_leI ?_ | with_reducible refine k_geI ?_ | with_reducible refine k_eqI ?_ | with_reducible refine k_neI ?_ | with_reducible refine k_eqS ?_ | with_reducible refine k_neS ?_ | with_reducible refine k_negI ?_ | with_reducible refine k_notB ?_ | with_reducible refine k_maxI ?_ | with_reducible refine k_minI ?_ | with_reducible refine k_lenS ?_
          | ((with_reducible refine k_mulI ?e ?_); (case e => omega)) | ((with_reducible refine k_divI ?e ?e2 ?_); (case e => omega); (case e2 => omega)) | ((with_reducible refine k_modI ?e ?_); (case e => omega)) | ((with_reducible refine k_powI ?e ?_); (case e => decide))
          | ((with_reducible refine k_lst ?e ?_); (case e => first | decide | (simp; done) | (simp; omega))) | ((with_reducible refine k_tupD ?e ?_); (case e => first | decide | (simp; done)))
          | ((with_reducible refine' k_lenL ?e ?_); (case e => assumption)) | ((with_reducible refine' k_ixL ?e ?e2 ?_); (case e => assumption); (case e2 => first | assumption | rfl)) | ((with_reducible refine' k_ixT ?e2 ?_); (case e2 => first | assumption | rfl)) | ((with_reducible refine' k_itR ?e ?_); (case e => assumption)))
        have eOne := xt.lst (lst_new (h := g1 ++ [.lst (svs xs)]) (xs := [.ref g1.length]))
        refine k_addL (xs := [.ref g1.length]) (by simpa using eOne) e (by simp [svs] at lv; simp; omega) ?_
        repeat (first
          | with_reducible refine k_seq ?_ | ((with_reducible refine k_then_nx ?_); try dsimp only [put]) | with_reducible refine k_e2 ?_ | ((with_reducible refine' k_var ?e ?_); (case e => rfl)) | with_reducible refine k_const ?_
          | with_reducible refine k_set ?_ | with_reducible refine k_if ?_ | with_reducible refine k_ret ?_ | with_reducible refine k_eL ?_ | with_reducible refine k_aCons ?_ | with_reducible refine k_aNil ?_ | with_reducible refine k_bT ?_ | with_reducible refine k_onB ?_
          | with_reducible refine k_call1 ?_ | with_reducible refine k_call2 ?_ | with_reducible refine k_call3 ?_ | with_reducible refine k_expr ?_ | with_reducible refine k_for ?_ | with_reducible refine k_meth ?_ | with_reducible refine k_sub ?_ | with_reducible refine k_par ?_ | with_reducible refine k_tup ?_
          | with_reducible refine k_iAny ?_ | with_reducible refine k_iRng1 ?_ | with_reducible refine k_iRng2 ?_ | with_reducible refine k_iEnm ?_ | with_reducible refine k_then_rt ?_ | with_reducible refine k_then_bk ?_ | with_reducible refine k_then_ct ?_ | with_reducible refine k_skip ?_ | with_reducible refine k_break ?_ | with_reducible refine k_cont ?_ | with_reducible refine k_retN ?_
          | with_reducible refine k_e1 ?_ | with_reducible refine k_not ?_ | with_reducible refine k_and ?_ | with_reducible refine k_or ?_ | with_reducible refine k_ifE ?_ | with_reducible refine k_chain ?_ | with_reducible refine k_slice ?_ | with_reducible refine k_oN ?_ | with_reducible refine k_oS ?_ | with_reducible refine k_lc ?_
          | with_reducible refine k_bAnd ?_ | with_reducible refine k_bOr ?_ | with_reducible refine k_bNot ?_ | with_reducible refine k_yes ?_ | with_reducible refine k_onI ?_ | with_reducible refine k_onR ?_ | with_reducible refine k_onL1 ?_ | with_reducible refine k_onL2 ?_ | with_reducible refine k_itT ?_ | with_reducible refine k_itS ?_
          | with_reducible refine k_ends_rt ?_ | with_reducible refine k_ends_nx ?_ | with_reducible refine k_true ?_ | with_reducible refine k_false ?_ | with_reducible refine k_ntrue ?_ | with_reducible refine k_nfalse ?_
          | with_reducible refine k_addI ?_ | with_reducible refine k_subI ?_ | with_reducible refine k_intI ?_ | with_reducible refine k_ltI ?_ | with_reducible refine k_gtI ?_ | with_reducible refine k_leI ?_ | with_reducible refine k_geI ?_ | with_reducible refine k_eqI ?_ | with_reducible refine k_neI ?_ | with_reducible refine k_eqS ?_ | with_reducible refine k_neS ?_ | with_reducible refine k_negI ?_ | with_reducible refine k_notB ?_ | with_reducible refine k_maxI ?_ | with_reducible refine k_minI ?_ | with_reducible refine k_lenS ?_
          | ((with_reducible refine k_mulI ?e ?_); (case e => omega)) | ((with_reducible refine k_divI ?e ?e2 ?_); (case e => omega); (case e2 => omega)) | ((with_reducible refine k_modI ?e ?_); (case e => omega)) | ((with_reducible refine k_powI ?e ?_); (case e => decide))
          | ((with_reducible refine k_lst ?e ?_); (case e => first | decide | (simp; done) | (simp; omega))) | ((with_reducible refine k_tupD ?e ?_); (case e => first | decide | (simp; done)))
          | ((with_reducible refine' k_lenL ?e ?_); (case e => assumption)) | ((with_reducible refine' k_ixL ?e ?e2 ?_); (case e => assumption); (case e2 => first | assumption | rfl)) | ((with_reducible refine' k_ixT ?e2 ?_); (case e2 => first | assumption | rfl)) | ((with_reducible refine' k_itR ?e ?_); (case e => assumption)))
        have md2 : Mod a h g2 := mdA.snoc.snoc.ext xt
        have eF := lst_new (h := g2) (xs := [.ref g1.length] ++ vs)
        try refine k_lenL eF ?_
        repeat (first
          | with_reducible refine k_seq ?_ | ((with_reducible refine k_then_nx ?_); try dsimp only [put]) | with_reducible refine k_e2 ?_ | ((with_reducible refine' k_var ?e ?_); (case e => rfl)) | with_reducible refine k_const ?_
          | with_reducible refine k_set ?_ | with_reducible refine k_if ?_ | with_reducible refine k_ret ?_ | with_reducible refine k_eL ?_ | with_reducible refine k_aCons ?_ | with_reducible refine k_aNil ?_ | with_reducible refine k_bT ?_ | with_reducible refine k_onB ?_
          | with_reducible refine k_call1 ?_ | with_reducible refine k_call2 ?_ | with_reducible refine k_call3 ?_ | with_reducible refine k_expr ?_ | with_reducible refine k_for ?_ | with_reducible refine k_meth ?_ | with_reducible refine k_sub ?_ | with_reducible refine k_par ?_ | with_reducible refine k_tup ?_
          | with_reducible refine k_iAny ?_ | with_reducible refine k_iRng1 ?_ | with_reducible refine k_iRng2 ?_ | with_reducible refine k_iEnm ?_ | with_reducible refine k_then_rt ?_ | with_reducible refine k_then_bk ?_ | with_reducible refine k_then_ct ?_ | with_reducible refine k_skip ?_ | with_reducible refine k_break ?_ | with_reducible refine k_cont ?_ | with_reducible refine k_retN ?_
          | with_reducible refine k_e1 ?_ | with_reducible refine k_not ?_ | with_reducible refine k_and ?_ | with_reducible refine k_or ?_ | with_reducible refine k_ifE ?_ | with_reducible refine k_chain ?_ | with_reducible refine k_slice ?_ | with_reducible refine k_oN ?_ | with_reducible refine k_oS ?_ | with_reducible refine k_lc ?_
          | with_reducible refine k_bAnd ?_ | with_reducible refine k_bOr ?_ | with_reducible refine k_bNot ?_ | with_reducible refine k_yes ?_ | with_reducible refine k_onI ?_ | with_reducible refine k_onR ?_ | with_reducible refine k_onL1 ?_ | with_reducible refine k_onL2 ?_ | with_reducible refine k_itT ?_ | with_reducible refine k_itS ?_
          | with_reducible refine k_ends_rt ?_ | with_reducible refine k_ends_nx ?_ | with_reducible refine k_true ?_ | with_reducible refine k_false ?_ | with_reducible refine k_ntrue ?_ | with_reducible refine k_nfalse ?_
          | with_reducible refine k_addI ?_ | with_reducible refine k_subI ?_ | with_reducible refine k_intI ?_ | with_reducible refine k_ltI ?_ | with_reducible refine k_gtI ?_ | with_reducible refine k_leI ?_ | with_reducible refine k_geI ?_ | with_reducible refine k_eqI ?_ | with_reducible refine k_neI ?_ | with_reducible refine k_eqS ?_ | with_reducible refine k_neS ?_ | with_reducible refine k_negI ?_ | with_reducible refine k_notB ?_ | with_reducible refine k_maxI ?_ | with_reducible refine k_minI ?_ | with_reducible refine k_lenS ?_
          | ((with_reducible refine k_mulI ?e ?_); (case e => omega)) | ((with_reducible refine k_divI ?e ?e2 ?_); (case e => omega); (case e2 => omega)) | ((with_reducible refine k_modI ?e ?_); (case e => omega)) | ((with_reducible refine k_powI ?e ?_); (case e => decide))
          | ((with_reducible refine k_lst ?e ?_); (case e => first | decide | (simp; done) | (simp; omega))) | ((with_reducible refine k_tupD ?e ?_); (case e => first | decide | (simp; done)))
          | ((with_reducible refine' k_lenL ?e ?_); (case e => assumption)) | ((with_reducible refine' k_ixL ?e ?e2 ?_); (case e => assumption); (case e2 => first | assumption | rfl)) | ((with_reducible refine' k_ixT ?e2 ?_); (case e2 => first | assumption | rfl)) | ((with_reducible refine' k_itR ?e ?_); (case e => assumption)))
        refine (next_sat md2.snoc.src (by omega) (by omega)).then fun v g3 q => ?_
        obtain ⟨r3, rfl, r30, r31, md3⟩ := q
        have l2 := md2.len
        have eF3 := md3.lst eF (by omega)
        repeat (first
          | with_reducible refine k_seq ?_ | ((with_reducible refine k_then_nx ?_); try dsimp only [put]) | with_reducible refine k_e2 ?_ | ((with_reducible refine' k_var ?e ?_); (case e => rfl)) | with_reducible refine k_const ?_
          | with_reducible refine k_set ?_ | with_reducible refine k_if ?_ | with_reducible refine k_ret ?_ | with_reducible refine k_eL ?_ | with_reducible refine k_aCons ?_ | with_reducible refine k_aNil ?_ | with_reducible refine k_bT ?_ | with_reducible refine k_onB ?_
          | with_reducible refine k_call1 ?_ | with_reducible refine k_call2 ?_ | with_reducible refine k_call3 ?_ | with_reducible refine k_expr ?_ | with_reducible refine k_for ?_ | with_reducible refine k_meth ?_ | with_reducible refine k_sub ?_ | with_reducible refine k_par ?_ | with_reducible refine k_tup ?_
          | with_reducible refine k_iAny ?_ | with_reducible refine k_iRng1 ?_ | with_reducible refine k_iRng2 ?_ | with_reducible refine k_iEnm ?_ | with_reducible refine k_then_rt ?_ | with_reducible refine k_then_bk ?_ | with_reducible refine k_then_ct ?_ | with_reducible refine k_skip ?_ | with_reducible refine k_break ?_ | with_reducible refine k_cont ?_ | with_reducible refine k_retN ?_
          | with_reducible refine k_e1 ?_ | with_reducible refine k_not ?_ | with_reducible refine k_and ?_ | with_reducible refine k_or ?_ | with_reducible refine k_ifE ?_ | with_reducible refine k_chain ?_ | with_reducible refine k_slice ?_ | with_reducible refine k_oN ?_ | with_reducible refine k_oS ?_ | with_reducible refine k_lc ?_
          | with_reducible refine k_bAnd ?_ | with_reducible refine k_bOr ?_ | with_reducible refine k_bNot ?_ | with_reducible refine k_yes ?_ | with_reducible refine k_onI ?_ | with_reducible refine k_onR ?_ | with_reducible refine k_onL1 ?_ | with_reducible refine k_onL2 ?_ | with_reducible refine k_itT ?_ | with_reducible refine k_itS ?_
          | with_reducible refine k_ends_rt ?_ | with_reducible refine k_ends_nx ?_ | with_reducible refine k_true ?_ | with_reducible refine k_false ?_ | with_reducible refine k_ntrue ?_ | with_reducible refine k_nfalse ?_
          | with_reducible refine k_addI ?_ | with_reducible refine k_subI ?_ | with_reducible refine k_intI ?_ | with_reducible refine k_ltI ?_ | with_reducible refine k_gtI ?_ | with_reducible refine k_leI ?_ | with_reducible refine k_geI ?_ | with_reducible refine k_eqI ?_ | with_reducible refine k_neI ?_ | with_reducible refine k_eqS ?_ | with_reducible refine k_neS ?_ | with_reducible refine k_negI ?_ | with_reducible refine k_notB ?_ | with_reducible refine k_maxI ?_ | with_reducible refine k_minI ?_ | with_reducible refine k_lenS ?_
          | ((with_reducible refine k_mulI ?e ?_); (case e => omega)) | ((with_reducible refine k_divI ?e ?e2 ?_); (case e => omega); (case e2 => omega)) | ((with_reducible refine k_modI ?e ?_); (case e => omega)) | ((with_reducible refine k_powI ?e ?_); (case e => decide))
          | ((with_reducible refine k_lst ?e ?_); (case e => first | decide | (simp; done) | (simp; omega))) | ((with_reducible refine k_tupD ?e ?_); (case e => first | decide | (simp; done)))
          | ((with_reducible refine' k_lenL ?e ?_); (case e => assumption)) | ((with_reducible refine' k_ixL ?e ?e2 ?_); (case e => assumption); (case e2 => first | assumption | rfl)) | ((with_reducible refine' k_ixT ?e2 ?_); (case e2 => first | assumption | rfl)) | ((with_reducible refine' k_itR ?e ?_); (case e => assumption)))
        refine k_slL eF3 ?_
        have hk : ∃ k : Nat, (([Pv.ref g1.length] ++ vs).length : Int) - r3 = (k : Int) := ⟨((([Pv.ref g1.length] ++ vs).length : Int) - r3).toNat, by
          have : 1 ≤ ([Pv.ref g1.length] ++ vs).length := by simp
          omega⟩
        obtain ⟨k, hk⟩ := hk
        rw [hk, cut_to]
        repeat (first
          | with_reducible refine k_seq ?_ | ((with_reducible refine k_then_nx ?_); try dsimp only [put]) | with_reducible refine k_e2 ?_ | ((with_reducible refine' k_var ?e ?_); (case e => rfl)) | with_reducible refine k_const ?_
          | with_reducible refine k_set ?_ | with_reducible refine k_if ?_ | with_reducible refine k_ret ?_ | with_reducible refine k_eL ?_ | with_reducible refine k_aCons ?_ | with_reducible refine k_aNil ?_ | with_reducible refine k_bT ?_ | with_reducible refine k_onB ?_
          | with_reducible refine k_call1 ?_ | with_reducible refine k_call2 ?_ | with_reducible refine k_call3 ?_ | with_reducible refine k_expr ?_ | with_reducible refine k_for ?_ | with_reducible refine k_meth ?_ | with_reducible refine k_sub ?_ | with_reducible refine k_par ?_ | with_reducible refine k_tup ?_
          | with_reducible refine k_iAny ?_ | with_reducible refine k_iRng1 ?_ | with_reducible refine k_iRng2 ?_ | with_reducible refine k_iEnm ?_ | with_reducible refine k_then_rt ?_ | with_reducible refine k_then_bk ?_ | with_reducible refine k_then_ct ?_ | with_reducible refine k_skip ?_ | with_reducible refine k_break ?_ | with_reducible refine k_cont ?_ | with_reducible refine k_retN ?_
          | with_reducible refine k_e1 ?_ | with_reducible refine k_not ?_ | with_reducible refine k_and ?_ | with_reducible refine k_or ?_ | with_reducible refine k_ifE ?_ | with_reducible refine k_chain ?_ | with_reducible refine k_slice ?_ | with_reducible refine k_oN ?_ | with_reducible refine k_oS ?_ | with_reducible refine k_lc ?_
          | with_reducible refine k_bAnd ?_ | with_reducible refine k_bOr ?_ | with_reducible refine k_bNot ?_ | with_reducible refine k_yes ?_ | with_reducible refine k_onI ?_ | with_reducible refine k_onR ?_ | with_reducible refine k_onL1 ?_ | with_reducible refine k_onL2 ?_ | with_reducible refine k_itT ?_ | with_reducible refine k_itS ?_
          | with_reducible refine k_ends_rt ?_ | with_reducible refine k_ends_nx ?_ | with_reducible refine k_true ?_ | with_reducible refine k_false ?_ | with_reducible refine k_ntrue ?_ | with_reducible refine k_nfalse ?_
          | with_reducible refine k_addI ?_ | with_reducible refine k_subI ?_ | with_reducible refine k_intI ?_ | with_reducible refine k_ltI ?_ | with_reducible refine k_gtI ?_ | with_reducible refine k_leI ?_ | with_reducible refine k_geI ?_ | with_reducible refine k_eqI ?_ | with_reducible refine k_neI ?_ | with_reducible refine k_eqS ?_ | with_reducible refine k_neS ?_ | with_reducible refine k_negI ?_ | with_reducible refine k_notB ?_ | with_reducible refine k_maxI ?_ | with_reducible refine k_minI ?_ | with_reducible refine k_lenS ?_
          | ((with_reducible refine k_mulI ?e ?_); (case e => omega)) | ((with_reducible refine k_divI ?e ?e2 ?_); (case e => omega); (case e2 => omega)) | ((with_reducible refine k_modI ?e ?_); (case e => omega)) | ((with_reducible refine k_powI ?e ?_); (case e => decide))
          | ((with_reducible refine k_lst ?e ?_); (case e => first | decide | (simp; done) | (simp; omega))) | ((with_reducible refine k_tupD ?e ?_); (case e => first | decide | (simp; done)))
          | ((with_reducible refine' k_lenL ?e ?_); (case e => assumption)) | ((with_reducible refine' k_ixL ?e ?e2 ?_); (case e => assumption); (case e2 => first | assumption | rfl)) | ((with_reducible refine' k_ixT ?e2 ?_); (case e2 => first | assumption | rfl)) | ((with_reducible refine' k_itR ?e ?_); (case e => assumption)))
        have md4 : Mod a h (g3 ++ [Ob.lst (([Pv.ref g1.length] ++ vs).take k)]) := (md2.snoc.trans md3).snoc
        have l3 := md4.len
        refine fin _ _ ((xs :: xs.map fun z => xs.filter fun y => !decide (y = z)).take k) _ _ _ md4 ?_ ⟨_, lst_new, ?_⟩ ?_ ?_
        · have := (md2.snoc.trans md3).len
          exact this
        · refine All2.take k ?_
          have upg : ∀ {v zs}, LRF h.length g2 v zs → LRF h.length (g3 ++ [Ob.lst (([Pv.ref g1.length] ++ vs).take k)]) v zs := fun {v zs} r => (LRF.mod md3 (r.ext Ext.refl.snoc) alt).ext Ext.refl.snoc
          refine .cons (upg ⟨g1.length, rfl, mdA.len, xt.lst (lst_old lst_new)⟩) ?_
          refine All2.map_right ?_
          refine (All2.comp al (svs_all2 xs)).imp fun v z w => ?_
          obtain ⟨x, ⟨q', e1, lt1, f⟩, e2⟩ := w
          have := mdA.len
          exact upg ⟨q', e1, by omega, f z e2⟩
        · simp only [List.length_take, List.length_cons, List.length_map]; omega
        · intro ys hy
          have hy := List.mem_of_mem_take hy
          rcases List.mem_cons.mp hy with hy | hy
          · subst hy; exact ⟨fun _ h => h, nd, hl⟩
          · obtain ⟨z, _, rfl⟩ := List.mem_map.mp hy
            exact good_filter nd hl _
    · repeat (first
        | with_reducible refine k_seq ?_ | ((with_reducible refine k_then_nx ?_); try dsimp only [put]) | with_reducible refine k_e2 ?_ | ((with_reducible refine' k_var ?e ?_); (case e => rfl)) | with_reducible refine k_const ?_
        | with_reducible refine k_set ?_ | with_reducible refine k_if ?_ | with_reducible refine k_ret ?_ | with_reducible refine k_eL ?_ | with_reducible refine k_aCons ?_ | with_reducible refine k_aNil ?_ | with_reducible refine k_bT ?_ | with_reducible refine k_onB ?_
        | with_reducible refine k_call1 ?_ | with_reducible refine k_call2 ?_ | with_reducible refine k_call3 ?_ | with_reducible refine k_expr ?_ | with_reducible refine k_for ?_ | with_reducible refine k_meth ?_ | with_reducible refine k_sub ?_ | with_reducible refine k_par ?_ | with_reducible refine k_tup ?_
        | with_reducible refine k_iAny ?_ | with_reducible refine k_iRng1 ?_ | with_reducible refine k_iRng2 ?_ | with_reducible refine k_iEnm ?_ | with_reducible refine k_then_rt ?_ | with_reducible refine k_then_bk ?_ | with_reducible refine k_then_ct ?_ | with_reducible refine k_skip ?_ | with_reducible refine k_break ?_ | with_reducible refine k_cont ?_ | with_reducible refine k_retN ?_
        | with_reducible refine k_e1 ?_ | with_reducible refine k_not ?_ | with_reducible refine k_and ?_ | with_reducible refine k_or ?_ | with_reducible refine k_ifE ?_ | with_reducible refine k_chain ?_ | with_reducible refine k_slice ?_ | with_reducible refine k_oN ?_ | with_reducible refine k_oS ?_ | with_reducible refine k_lc ?_
        | with_reducible refine k_bAnd ?_ | with_reducible refine k_bOr ?_ | with_reducible refine k_bNot ?_ | with_reducible refine k_yes ?_ | with_reducible refine k_onI ?_ | with_reducible refine k_onR ?_ | with_reducible refine k_onL1 ?_ | with_reducible refine k_onL2 ?_ | with_reducible refine k_itT ?_ | with_reducible refine k_itS ?_
        | with_reducible refine k_ends_rt ?_ | with_reducible refine k_ends_nx ?_ | with_reducible refine k_true ?_ | with_reducible refine k_false ?_ | with_reducible refine k_ntrue ?_ | with_reducible refine k_nfalse ?_
        | with_reducible refine k_addI ?_ | with_reducible refine k_subI ?_ | with_reducible refine k_intI ?_ | with_reducible refine k_ltI ?_ | with_reducible refine k_gtI ?_ | with_reducible refine k_leI ?_ | with_reducible refine k_geI ?_ | with_reducible refine k_eqI ?_ | with_reducible refine k_neI ?_ | with_reducible refine k_eqS ?_ | with_reducible refine k_neS ?_ | with_reducible refine k_negI ?_ | with_reducible refine k_notB ?_ | with_reducible refine k_maxI ?_ | with_reducible refine k_minI ?_ | with_reducible refine k_lenS ?_
        | ((with_reducible refine k_mulI ?e ?_); (case e => omega)) | ((with_reducible refine k_divI ?e ?e2 ?_); (case e => omega); (case e2 => omega)) | ((with_reducible refine k_modI ?e ?_); (case e => omega)) | ((with_reducible refine k_powI ?e ?_); (case e => decide))
        | ((with_reducible refine k_lst ?e ?_); (case e => first | decide | (simp; done) | (simp; omega))) | ((with_reducible refine k_tupD ?e ?_); (case e => first | decide | (simp; done)))
        | ((with_reducible refine' k_lenL ?e ?_); (case e => assumption)) | ((with_reducible refine' k_ixL ?e ?e2 ?_); (case e => assumption); (case e2 => first | assumption | rfl)) | ((with_reducible refine' k_ixT ?e2 ?_); (case e2 => first | assumption | rfl)) | ((with_reducible refine' k_itR ?e ?_); (case e => assumption)))
      obtain ⟨vf, ef, alf⟩ := llf
      refine fin _ _ sets _ _ _ mdA (Nat.le_refl _) ⟨vf, md1.lst ef (by omega), alf.imp fun v zs r => (LRF.mod md1 r (by omega)).low (by omega)⟩ (by omega) good
end Pg
namespace Pg
open PySem PySem.Spec L2 Mi
/-! ### the doubt does not hang on the order -/
theorem ssort_reverse (xs : List Str) : ssort xs.reverse = ssort xs :=
  sorted_unique ((ssort_perm _).trans ((List.reverse_perm xs).trans (ssort_perm xs).symm)) (ssort_pair _) (ssort_pair _)
theorem trc_reverse (tr one : List Str) : trc tr one.reverse = trc tr one := by
  unfold trc
  refine List.filter_congr fun x _ => ?_
  simp
theorem bad_reverse (sets : List (List Str)) (tr : List Str) : bad (sets.reverse.map List.reverse) tr = bad sets tr := by
  have e : ∀ ys, ys ∈ (sets.reverse.map List.reverse).map (trc tr) ↔ ys ∈ sets.map (trc tr) := by
    intro ys
    simp only [List.map_map, List.mem_map, List.mem_reverse, Function.comp_apply, trc_reverse]
  unfold bad
  simp only [e]
theorem doubt_reverse (xs : List Str) (sets : List (List Str)) : doubtF (ssort xs.reverse) (sets.reverse.map List.reverse) = doubtF (ssort xs) sets := by
  unfold doubtF
  rw [ssort_reverse]
  congr 1
  funext tr
  exact bad_reverse sets tr
/-! ### repr -/
def dS (xs : List Str) : PyData := .list (xs.map .str)
def dSS (sets : List (List Str)) : PyData := .list (sets.map dS)
theorem pdL_svs {h : Hh} {n : Nat} : ∀ xs : List Str, pdL (pd (n + 1) h) (svs xs) = some (xs.map .str)
  | [] => rfl
  | x :: xs => by
    show (match pd (n + 1) h (.str x), pdL (pd (n + 1) h) (svs xs) with
      | some d, some ds => some (d :: ds)
      | _, _ => none) = _
    rw [pdL_svs xs]
    rfl
theorem pd_LS {h : Hh} {n p : Nat} {xs : List Str} (e : LS h p xs) : pd (n + 2) h (.ref p) = some (dS xs) := by
  show (match lstAt h p with
    | some xs => (pdL (pd (n + 1) h) xs).map PyData.list
    | none => none) = _
  rw [show lstAt h p = some (svs xs) from e]
  simp only [pdL_svs]
  rfl
theorem pdL_LL {h : Hh} {n : Nat} : ∀ {vs : List Pv} {sets : List (List Str)}, All2 (LLR h) vs sets → pdL (pd (n + 2) h) vs = some (sets.map dS)
  | _, _, .nil => rfl
  | _, _, .cons (as := vs) (bs := sets) ⟨q, e1, e2⟩ r => by
    subst e1
    show (match pd (n + 2) h (.ref q), pdL (pd (n + 2) h) vs with
      | some d, some ds => some (d :: ds)
      | _, _ => none) = _
    rw [pdL_LL r, pd_LS e2]
    rfl
theorem pd_LL {h : Hh} {n p : Nat} {sets : List (List Str)} (e : LL h p sets) : pd (n + 3) h (.ref p) = some (dSS sets) := by
  obtain ⟨vs, e1, e2⟩ := e
  show (match lstAt h p with
    | some xs => (pdL (pd (n + 2) h) xs).map PyData.list
    | none => none) = _
  rw [e1]
  simp only [pdL_LL e2]
  rfl
def dT (xs : List Str) (sets : List (List Str)) : PyData := .tuple [dS xs, dSS sets]
theorem can_strs : ∀ xs : List Str, (∀ x ∈ xs, PyData.strOk x = true) → PyData.canLayAll0 (xs.map .str) = true
  | [], _ => rfl
  | x :: xs, h => by
    show (PyData.strOk x && PyData.canLayAll0 (xs.map .str)) = true
    rw [h x (by simp), can_strs xs fun y hy => h y (by simp [hy])]
    rfl
theorem can_sets : ∀ sets : List (List Str), (∀ ys ∈ sets, ∀ x ∈ ys, PyData.strOk x = true) → PyData.canLayAll0 (sets.map dS) = true
  | [], _ => rfl
  | ys :: sets, h => by
    show (PyData.canLayAll0 (ys.map .str) && PyData.canLayAll0 (sets.map dS)) = true
    rw [can_strs ys (h ys (by simp)), can_sets sets fun y hy => h y (by simp [hy])]
    rfl
theorem w_strs (m : Nat) : ∀ xs : List Str, (∀ x ∈ xs, x.length ≤ m) → PyData.weightAll (xs.map .str) ≤ xs.length * (m + 1)
  | [], _ => by simp [PyData.weightAll]
  | x :: xs, h => by
    have h1 := h x (by simp)
    have h2 := w_strs m xs fun y hy => h y (by simp [hy])
    have e : PyData.weightAll ((x :: xs).map .str) = x.length + 1 + PyData.weightAll (xs.map .str) := rfl
    rw [e, List.length_cons, Nat.add_mul]
    omega
theorem w_sets (m k : Nat) : ∀ sets : List (List Str), (∀ ys ∈ sets, ys.length ≤ k ∧ ∀ x ∈ ys, x.length ≤ m) → PyData.weightAll (sets.map dS) ≤ sets.length * (k * (m + 1) + 1)
  | [], _ => by simp [PyData.weightAll]
  | ys :: sets, h => by
    obtain ⟨h0, h1⟩ := h ys (by simp)
    have h2 := w_sets m k sets fun y hy => h y (by simp [hy])
    have h3 := w_strs m ys h1
    have e : PyData.weightAll ((ys :: sets).map dS) = PyData.weightAll (ys.map .str) + 1 + PyData.weightAll (sets.map dS) := rfl
    have h4 : ys.length * (m + 1) ≤ k * (m + 1) := Nat.mul_le_mul_right _ h0
    rw [e, List.length_cons, Nat.add_mul]
    omega
theorem dp_strs : ∀ xs : List Str, PyData.depthAll (xs.map .str) = 0
  | [] => rfl
  | x :: xs => by
    show max 0 (PyData.depthAll (xs.map .str)) = 0
    rw [dp_strs xs]
    rfl
theorem dp_sets : ∀ sets : List (List Str), PyData.depthAll (sets.map dS) ≤ 1
  | [] => Nat.zero_le _
  | ys :: sets => by
    show max (PyData.depthAll (ys.map .str) + 1) (PyData.depthAll (sets.map dS)) ≤ 1
    rw [dp_strs]
    have := dp_sets sets
    omega
theorem is_strs : ∀ xs : List Str, PyData.intsShortAll 13 (xs.map .str) = true
  | [] => rfl
  | x :: xs => is_strs xs
theorem is_sets : ∀ sets : List (List Str), PyData.intsShortAll 13 (sets.map dS) = true
  | [] => rfl
  | ys :: sets => by
    show (PyData.intsShortAll 13 (ys.map .str) && PyData.intsShortAll 13 (sets.map dS)) = true
    rw [is_strs, is_sets sets]
    rfl
theorem shown_fits {xs : List Str} {sets : List (List Str)} (h1 : xs.length ≤ 30) (h2 : ∀ x ∈ xs, x.length ≤ 8 ∧ PyData.strOk x = true) (h3 : sets.length ≤ 200) (h4 : ∀ ys ∈ sets, Good xs ys) : (dT xs sets).shown.length ≤ sizeLine := by
  have g : ∀ ys ∈ sets, ys.length ≤ 30 ∧ ∀ x ∈ ys, x.length ≤ 8 := fun ys hy => ⟨(h4 ys hy).2.2, fun x hx => (h2 x ((h4 ys hy).1 x hx)).1⟩
  have lay : PyData.layable0 (dT xs sets) = true := by
    have c : PyData.canLay0 (dT xs sets) = true := by
      show (PyData.canLayAll0 (xs.map .str) && (PyData.canLayAll0 (sets.map dS) && true)) = true
      rw [can_strs xs fun x hx => (h2 x hx).2, can_sets sets fun ys hy x hx => (h2 x ((h4 ys hy).1 x hx)).2]
      rfl
    have d : PyData.depth (dT xs sets) ≤ 64 := by
      show max (PyData.depthAll (xs.map .str) + 1) (max (PyData.depthAll (sets.map dS) + 1) 0) + 1 ≤ 64
      have := dp_sets sets
      rw [dp_strs]
      omega
    have w : PyData.weight (dT xs sets) ≤ 2 ^ 20 := by
      show PyData.weightAll (xs.map .str) + 1 + (PyData.weightAll (sets.map dS) + 1 + 0) ≤ 2 ^ 20
      have a := w_strs 8 xs fun x hx => (h2 x hx).1
      have b := w_sets 8 30 sets g
      omega
    unfold PyData.layable0
    rw [c, decide_eq_true d, decide_eq_true w]
    rfl
  have := PyProof.Rows.shown_le13 lay (by
    show (PyData.intsShortAll 13 (xs.map .str) && (PyData.intsShortAll 13 (sets.map dS) && true)) = true
    rw [is_strs, is_sets]
    rfl)
  exact Nat.le_trans this (by decide)
theorem k_repr {h : Hh} {p q : Nat} {xs : List Str} {sets : List (List Str)} {Q : Pv → Hh → Prop} {E : XX} (e1 : LS h p xs) (e2 : LL h q sets) (hz : (dT xs sets).shown.length ≤ sizeLine) (x : Q (.str (dT xs sets).shown) h) :
    Sat (Rs.of (reprO [.tup [.ref p, .ref q]] h)) Q E := by
  refine k_of ?_ x
  have e : pd 40 h (.tup [.ref p, .ref q]) = some (dT xs sets) := by
    show (pdL (pd 39 h) [.ref p, .ref q]).map PyData.tuple = _
    have a1 : pd 39 h (.ref p) = some (dS xs) := pd_LS (n := 37) e1
    have a2 : pd 39 h (.ref q) = some (dSS sets) := pd_LL (n := 36) e2
    simp only [pdL, a1, a2]
    rfl
  unfold reprO
  simp only [e, if_pos hz]
/-! ### the names -/
def baseL : List Str := ["a", "ab", "abc", "aa", "b", "ba", "bab", "c", "cc", "ca"]
def wd (r : Nat) : Str := cutS "clusters" none (some (r : Int))
def okB (x : Str) : Bool := decide (1 ≤ x.length) && decide (x.length ≤ 8) && x.cps.toList.all (fun c => inS ⟨#[c]⟩ "abcdefghijklmnopqrstuvwxyz") && PyData.strOk x
theorem okB_ok {x : Str} (h : okB x = true) : okN x ∧ x.length ≤ 8 ∧ PyData.strOk x = true := by
  unfold okB at h
  simp only [Bool.and_eq_true, decide_eq_true_eq, List.all_eq_true] at h
  exact ⟨⟨h.1.1.1, h.1.1.2, h.1.2⟩, h.1.1.2, h.2⟩
theorem words_ok : ∀ r : Fin 6, (((baseL.map (wd r ++ ·)).all okB) && decide (baseL.map (wd r ++ ·)).Nodup && decide ((wd r).length ≤ 5)) = true := by decide +kernel
theorem names_ok {r m : Nat} {ys : List Str} (hr : r < 6) (pm : ys.Perm baseL) : ((ys.take m).map (wd r ++ ·)).Nodup ∧ (wd r).length ≤ 5 ∧ ∀ x ∈ (ys.take m).map (wd r ++ ·), okN x ∧ x.length ≤ 8 ∧ PyData.strOk x = true := by
  have w := words_ok ⟨r, hr⟩
  simp only [Bool.and_eq_true, decide_eq_true_eq, List.all_eq_true] at w
  obtain ⟨⟨w1, w2⟩, w3⟩ := w
  have sl : ((ys.take m).map (wd r ++ ·)).Sublist (ys.map (wd r ++ ·)) := (List.take_sublist m ys).map _
  have pm' : (ys.map (wd r ++ ·)).Perm (baseL.map (wd r ++ ·)) := pm.map _
  exact ⟨(pm'.nodup_iff.mpr w2).sublist sl, w3, fun x hx => okB_ok (w1 x (pm'.mem_iff.mp (sl.subset hx)))⟩
end Pg
namespace Pg
open PySem PySem.Spec L2 Mi
theorem k_revL {Q : Pv → Hh → Prop} {E : XX} {h : Hh} {a : Nat} {xs : List Pv} (e : lstAt h a = some xs) (x : Q (.ref h.length) (h ++ [.lst xs.reverse])) : Sat (Rs.of (revO (.ref a) h)) Q E := k_of (by simp only [revO, lstOf, lst_at e]) x
theorem Told.ext {b : Nat} {h h' : Hh} {o : Option (List Str)} {v : Pv} (t : Told b h o v) (x : Ext h h') : Told b h' o v := by
  cases o with
  | none => exact t
  | some tr =>
    obtain ⟨q, e1, e2, e3⟩ := t
    exact ⟨q, e1, e2, e3.ext x⟩
theorem k_neTold {Q : Pv → Hh → Prop} {E : XX} {h : Hh} {b c : Nat} {o : Option (List Str)} {u v : Pv} (t : Told b h o u) (t' : Told c h o v) (x : Q (.bl false) h) : Sat (Rs.of (neO u v h)) Q E := by
  cases o with
  | none =>
    cases (show u = _ from t)
    cases (show v = _ from t')
    exact x
  | some tr =>
    obtain ⟨q, rfl, _, e3⟩ := t
    obtain ⟨q', rfl, _, e3'⟩ := t'
    refine k_neLS e3 e3' ?_
    simpa using x
def restS : SM := (sSeq (sSet 11 (eLc (iAny (e1 revO (eVar 7))) (.one 13) bYes (e1 revO (eVar 13)) [13]))
    (sIf (bOr (bT (e2 neO (eCall 2 d_in_doubt (aCons (e1 revO (eVar 4)) (aCons (eVar 11) aNil)) []) (eVar 9))) (bT (e2 neO (eL reprO (aCons (eL tupO (aCons (eVar 4) (aCons (eVar 7) aNil))) aNil)) (eVar 8)))) (sRet (eC (.bl false))) sSkip))
theorem rest_sat {g : Hh} {p q b : Nat} {xs : List Str} {sets : List (List Str)} {due : Pv} {c0 c1 c2 c3 c5 c6 c10 c11 : Option Pv} (ep : LS g p xs) (es : LL g q sets) (td : Told b g (doubtF (ssort xs) sets) due)
    (ok : ∀ x ∈ xs, okN x ∧ x.length ≤ 8 ∧ PyData.strOk x = true) (nd : xs.Nodup) (h2 : 2 ≤ xs.length) (h3 : xs.length ≤ 30) (hs : sets.length ≤ 200) (gd : ∀ ys ∈ sets, Good xs ys) :
    Sat (restS [c0, c1, c2, c3, some (.ref p), c5, c6, some (.ref q), some (.str (dT xs sets).shown), some due, c10, c11, none, none] g)
      (fun f g' => ∃ o, f = .nx [c0, c1, c2, c3, some (.ref p), c5, c6, some (.ref q), some (.str (dT xs sets).shown), some due, c10, o, none, none] ∧ Ext g g') NoX := by
  unfold restS
  obtain ⟨vs, eq, al⟩ := es
  repeat (first
    | with_reducible refine k_seq ?_ | ((with_reducible refine k_then_nx ?_); try dsimp only [put]) | with_reducible refine k_e2 ?_ | ((with_reducible refine' k_var ?e ?_); (case e => rfl)) | with_reducible refine k_const ?_
    | with_reducible refine k_set ?_ | with_reducible refine k_if ?_ | with_reducible refine k_ret ?_ | with_reducible refine k_eL ?_ | with_reducible refine k_aCons ?_ | with_reducible refine k_aNil ?_ | with_reducible refine k_bT ?_ | with_reducible refine k_onB ?_
    | with_reducible refine k_call1 ?_ | with_reducible refine k_call2 ?_ | with_reducible refine k_call3 ?_ | with_reducible refine k_expr ?_ | with_reducible refine k_for ?_ | with_reducible refine k_meth ?_ | with_reducible refine k_sub ?_ | with_reducible refine k_par ?_ | with_reducible refine k_tup ?_
    | with_reducible refine k_iAny ?_ | with_reducible refine k_iRng1 ?_ | with_reducible refine k_iRng2 ?_ | with_reducible refine k_iEnm ?_ | with_reducible refine k_then_rt ?_ | with_reducible refine k_then_bk ?_ | with_reducible refine k_then_ct ?_ | with_reducible refine k_skip ?_ | with_reducible refine k_break ?_ | with_reducible refine k_cont ?_ | with_reducible refine k_retN ?_
    | with_reducible refine k_e1 ?_ | with_reducible refine k_not ?_ | with_reducible refine k_and ?_ | with_reducible refine k_or ?_ | with_reducible refine k_ifE ?_ | with_reducible refine k_chain ?_ | with_reducible refine k_slice ?_ | with_reducible refine k_oN ?_ | with_reducible refine k_oS ?_ | with_reducible refine k_lc ?_
    | with_reducible refine k_bAnd ?_ | with_reducible refine k_bOr ?_ | with_reducible refine k_bNot ?_ | with_reducible refine k_yes ?_ | with_reducible refine k_onI ?_ | with_reducible refine k_onR ?_ | with_reducible refine k_onL1 ?_ | with_reducible refine k_onL2 ?_ | with_reducible refine k_itT ?_ | with_reducible refine k_itS ?_
    | with_reducible refine k_ends_rt ?_ | with_reducible refine k_ends_nx ?_ | with_reducible refine k_true ?_ | with_reducible refine k_false ?_ | with_reducible refine k_ntrue ?_ | with_reducible refine k_nfalse ?_
    | with_reducible refine k_addI ?_ | with_reducible refine k_subI ?_ | with_reducible refine k_intI ?_ | with_reducible refine k_ltI ?_ | with_reducible refine k_gtI ?_ | with_reducible refine k_leI ?_ | with_reducible refine k_geI ?_ | with_reducible refine k_eqI ?_ | with_reducible refine k_neI ?_ | with_reducible refine k_eqS ?_ | with_reducible refine k_neS ?_ | with_reducible refine k_negI ?_ | with_reducible refine k_notB ?_ | with_reducible refine k_maxI ?_ | with_reducible refine k_minI ?_ | with_reducible refine k_lenS ?_
    | ((with_reducible refine k_mulI ?e ?_); (case e => omega)) | ((with_reducible refine k_divI ?e ?e2 ?_); (case e => omega); (case e2 => omega)) | ((with_reducible refine k_modI ?e ?_); (case e => omega)) | ((with_reducible refine k_powI ?e ?_); (case e => decide))
    | ((with_reducible refine k_lst ?e ?_); (case e => first | decide | (simp; done) | (simp; omega))) | ((with_reducible refine k_tupD ?e ?_); (case e => first | decide | (simp; done)))
    | ((with_reducible refine' k_lenL ?e ?_); (case e => assumption)) | ((with_reducible refine' k_ixL ?e ?e2 ?_); (case e => assumption); (case e2 => first | assumption | rfl)) | ((with_reducible refine' k_ixT ?e2 ?_); (case e2 => first | assumption | rfl)) | ((with_reducible refine' k_itR ?e ?_); (case e => assumption)))
  refine k_revL eq ?_
  refine k_itR lst_new ?_
  have ll : LL (g ++ [.lst vs.reverse]) g.length sets.reverse := ⟨_, lst_new, (al.imp fun v zs ⟨q', e1, e2⟩ => ⟨q', e1, e2.ext Ext.refl.snoc⟩).reverse⟩
  refine map_lc (i := 13) List.reverse ll (by simp; omega) ?_ ?_
  · intro ys q1 g1 hy e1 x1
    have e2 := e1.ext x1
    repeat (first
      | with_reducible refine k_seq ?_ | ((with_reducible refine k_then_nx ?_); try dsimp only [put]) | with_reducible refine k_e2 ?_ | ((with_reducible refine' k_var ?e ?_); (case e => rfl)) | with_reducible refine k_const ?_
      | with_reducible refine k_set ?_ | with_reducible refine k_if ?_ | with_reducible refine k_ret ?_ | with_reducible refine k_eL ?_ | with_reducible refine k_aCons ?_ | with_reducible refine k_aNil ?_ | with_reducible refine k_bT ?_ | with_reducible refine k_onB ?_
      | with_reducible refine k_call1 ?_ | with_reducible refine k_call2 ?_ | with_reducible refine k_call3 ?_ | with_reducible refine k_expr ?_ | with_reducible refine k_for ?_ | with_reducible refine k_meth ?_ | with_reducible refine k_sub ?_ | with_reducible refine k_par ?_ | with_reducible refine k_tup ?_
      | with_reducible refine k_iAny ?_ | with_reducible refine k_iRng1 ?_ | with_reducible refine k_iRng2 ?_ | with_reducible refine k_iEnm ?_ | with_reducible refine k_then_rt ?_ | with_reducible refine k_then_bk ?_ | with_reducible refine k_then_ct ?_ | with_reducible refine k_skip ?_ | with_reducible refine k_break ?_ | with_reducible refine k_cont ?_ | with_reducible refine k_retN ?_
      | with_reducible refine k_e1 ?_ | with_reducible refine k_not ?_ | with_reducible refine k_and ?_ | with_reducible refine k_or ?_ | with_reducible refine k_ifE ?_ | with_reducible refine k_chain ?_ | with_reducible refine k_slice ?_ | with_reducible refine k_oN ?_ | with_reducible refine k_oS ?_ | with_reducible refine k_lc ?_
      | with_reducible refine k_bAnd ?_ | with_reducible refine k_bOr ?_ | with_reducible refine k_bNot ?_ | with_reducible refine k_yes ?_ | with_reducible refine k_onI ?_ | with_reducible refine k_onR ?_ | with_reducible refine k_onL1 ?_ | with_reducible refine k_onL2 ?_ | with_reducible refine k_itT ?_ | with_reducible refine k_itS ?_
      | with_reducible refine k_ends_rt ?_ | with_reducible refine k_ends_nx ?_ | with_reducible refine k_true ?_ | with_reducible refine k_false ?_ | with_reducible refine k_ntrue ?_ | with_reducible refine k_nfalse ?_
      | with_reducible refine k_addI ?_ | with_reducible refine k_subI ?_ | with_reducible refine k_intI ?_ | with_reducible refine k_ltI ?_ | with_reducible refine k_gtI ?_ | with_reducible refine k_leI ?_ | with_reducible refine k_geI ?_ | with_reducible refine k_eqI ?_ | with_reducible refine k_neI ?_ | with_reducible refine k_eqS ?_ | with_reducible refine k_neS ?_ | with_reducible refine k_negI ?_ | with_reducible refine k_notB ?_ | with_reducible refine k_maxI ?_ | with_reducible refine k_minI ?_ | with_reducible refine k_lenS ?_
      | ((with_reducible refine k_mulI ?e ?_); (case e => omega)) | ((with_reducible refine k_divI ?e ?e2 ?_); (case e => omega); (case e2 => omega)) | ((with_reducible refine k_modI ?e ?_); (case e => omega)) | ((with_reducible refine k_powI ?e ?_); (case e => decide))
      | ((with_reducible refine k_lst ?e ?_); (case e => first | decide | (simp; done) | (simp; omega))) | ((with_reducible refine k_tupD ?e ?_); (case e => first | decide | (simp; done)))
      | ((with_reducible refine' k_lenL ?e ?_); (case e => assumption)) | ((with_reducible refine' k_ixL ?e ?e2 ?_); (case e => assumption); (case e2 => first | assumption | rfl)) | ((with_reducible refine' k_ixT ?e2 ?_); (case e2 => first | assumption | rfl)) | ((with_reducible refine' k_itR ?e ?_); (case e => assumption)))
    refine k_revL e2 ?_
    exact ⟨_, rfl, Nat.le_refl _, by unfold LS; rw [lst_new, svs, svs, List.map_reverse], Ext.refl.snoc⟩
  · intro g1 q1 hq1 x1 llf
    have xg : Ext g g1 := Ext.refl.snoc.trans x1
    repeat (first
      | with_reducible refine k_seq ?_ | ((with_reducible refine k_then_nx ?_); try dsimp only [put]) | with_reducible refine k_e2 ?_ | ((with_reducible refine' k_var ?e ?_); (case e => rfl)) | with_reducible refine k_const ?_
      | with_reducible refine k_set ?_ | with_reducible refine k_if ?_ | with_reducible refine k_ret ?_ | with_reducible refine k_eL ?_ | with_reducible refine k_aCons ?_ | with_reducible refine k_aNil ?_ | with_reducible refine k_bT ?_ | with_reducible refine k_onB ?_
      | with_reducible refine k_call1 ?_ | with_reducible refine k_call2 ?_ | with_reducible refine k_call3 ?_ | with_reducible refine k_expr ?_ | with_reducible refine k_for ?_ | with_reducible refine k_meth ?_ | with_reducible refine k_sub ?_ | with_reducible refine k_par ?_ | with_reducible refine k_tup ?_
      | with_reducible refine k_iAny ?_ | with_reducible refine k_iRng1 ?_ | with_reducible refine k_iRng2 ?_ | with_reducible refine k_iEnm ?_ | with_reducible refine k_then_rt ?_ | with_reducible refine k_then_bk ?_ | with_reducible refine k_then_ct ?_ | with_reducible refine k_skip ?_ | with_reducible refine k_break ?_ | with_reducible refine k_cont ?_ | with_reducible refine k_retN ?_
      | with_reducible refine k_e1 ?_ | with_reducible refine k_not ?_ | with_reducible refine k_and ?_ | with_reducible refine k_or ?_ | with_reducible refine k_ifE ?_ | with_reducible refine k_chain ?_ | with_reducible refine k_slice ?_ | with_reducible refine k_oN ?_ | with_reducible refine k_oS ?_ | with_reducible refine k_lc ?_
      | with_reducible refine k_bAnd ?_ | with_reducible refine k_bOr ?_ | with_reducible refine k_bNot ?_ | with_reducible refine k_yes ?_ | with_reducible refine k_onI ?_ | with_reducible refine k_onR ?_ | with_reducible refine k_onL1 ?_ | with_reducible refine k_onL2 ?_ | with_reducible refine k_itT ?_ | with_reducible refine k_itS ?_
      | with_reducible refine k_ends_rt ?_ | with_reducible refine k_ends_nx ?_ | with_reducible refine k_true ?_ | with_reducible refine k_false ?_ | with_reducible refine k_ntrue ?_ | with_reducible refine k_nfalse ?_
      | with_reducible refine k_addI ?_ | with_reducible refine k_subI ?_ | with_reducible refine k_intI ?_ | with_reducible refine k_ltI ?_ | with_reducible refine k_gtI ?_ | with_reducible refine k_leI ?_ | with_reducible refine k_geI ?_ | with_reducible refine k_eqI ?_ | with_reducible refine k_neI ?_ | with_reducible refine k_eqS ?_ | with_reducible refine k_neS ?_ | with_reducible refine k_negI ?_ | with_reducible refine k_notB ?_ | with_reducible refine k_maxI ?_ | with_reducible refine k_minI ?_ | with_reducible refine k_lenS ?_
      | ((with_reducible refine k_mulI ?e ?_); (case e => omega)) | ((with_reducible refine k_divI ?e ?e2 ?_); (case e => omega); (case e2 => omega)) | ((with_reducible refine k_modI ?e ?_); (case e => omega)) | ((with_reducible refine k_powI ?e ?_); (case e => decide))
      | ((with_reducible refine k_lst ?e ?_); (case e => first | decide | (simp; done) | (simp; omega))) | ((with_reducible refine k_tupD ?e ?_); (case e => first | decide | (simp; done)))
      | ((with_reducible refine' k_lenL ?e ?_); (case e => assumption)) | ((with_reducible refine' k_ixL ?e ?e2 ?_); (case e => assumption); (case e2 => first | assumption | rfl)) | ((with_reducible refine' k_ixT ?e2 ?_); (case e2 => first | assumption | rfl)) | ((with_reducible refine' k_itR ?e ?_); (case e => assumption)))
    refine k_revL (ep.ext xg) ?_
    repeat (first
      | with_reducible refine k_seq ?_ | ((with_reducible refine k_then_nx ?_); try dsimp only [put]) | with_reducible refine k_e2 ?_ | ((with_reducible refine' k_var ?e ?_); (case e => rfl)) | with_reducible refine k_const ?_
      | with_reducible refine k_set ?_ | with_reducible refine k_if ?_ | with_reducible refine k_ret ?_ | with_reducible refine k_eL ?_ | with_reducible refine k_aCons ?_ | with_reducible refine k_aNil ?_ | with_reducible refine k_bT ?_ | with_reducible refine k_onB ?_
      | with_reducible refine k_call1 ?_ | with_reducible refine k_call2 ?_ | with_reducible refine k_call3 ?_ | with_reducible refine k_expr ?_ | with_reducible refine k_for ?_ | with_reducible refine k_meth ?_ | with_reducible refine k_sub ?_ | with_reducible refine k_par ?_ | with_reducible refine k_tup ?_
      | with_reducible refine k_iAny ?_ | with_reducible refine k_iRng1 ?_ | with_reducible refine k_iRng2 ?_ | with_reducible refine k_iEnm ?_ | with_reducible refine k_then_rt ?_ | with_reducible refine k_then_bk ?_ | with_reducible refine k_then_ct ?_ | with_reducible refine k_skip ?_ | with_reducible refine k_break ?_ | with_reducible refine k_cont ?_ | with_reducible refine k_retN ?_
      | with_reducible refine k_e1 ?_ | with_reducible refine k_not ?_ | with_reducible refine k_and ?_ | with_reducible refine k_or ?_ | with_reducible refine k_ifE ?_ | with_reducible refine k_chain ?_ | with_reducible refine k_slice ?_ | with_reducible refine k_oN ?_ | with_reducible refine k_oS ?_ | with_reducible refine k_lc ?_
      | with_reducible refine k_bAnd ?_ | with_reducible refine k_bOr ?_ | with_reducible refine k_bNot ?_ | with_reducible refine k_yes ?_ | with_reducible refine k_onI ?_ | with_reducible refine k_onR ?_ | with_reducible refine k_onL1 ?_ | with_reducible refine k_onL2 ?_ | with_reducible refine k_itT ?_ | with_reducible refine k_itS ?_
      | with_reducible refine k_ends_rt ?_ | with_reducible refine k_ends_nx ?_ | with_reducible refine k_true ?_ | with_reducible refine k_false ?_ | with_reducible refine k_ntrue ?_ | with_reducible refine k_nfalse ?_
      | with_reducible refine k_addI ?_ | with_reducible refine k_subI ?_ | with_reducible refine k_intI ?_ | with_reducible refine k_ltI ?_ | with_reducible refine k_gtI ?_ | with_reducible refine k_leI ?_ | with_reducible refine k_geI ?_ | with_reducible refine k_eqI ?_ | with_reducible refine k_neI ?_ | with_reducible refine k_eqS ?_ | with_reducible refine k_neS ?_ | with_reducible refine k_negI ?_ | with_reducible refine k_notB ?_ | with_reducible refine k_maxI ?_ | with_reducible refine k_minI ?_ | with_reducible refine k_lenS ?_
      | ((with_reducible refine k_mulI ?e ?_); (case e => omega)) | ((with_reducible refine k_divI ?e ?e2 ?_); (case e => omega); (case e2 => omega)) | ((with_reducible refine k_modI ?e ?_); (case e => omega)) | ((with_reducible refine k_powI ?e ?_); (case e => decide))
      | ((with_reducible refine k_lst ?e ?_); (case e => first | decide | (simp; done) | (simp; omega))) | ((with_reducible refine k_tupD ?e ?_); (case e => first | decide | (simp; done)))
      | ((with_reducible refine' k_lenL ?e ?_); (case e => assumption)) | ((with_reducible refine' k_ixL ?e ?e2 ?_); (case e => assumption); (case e2 => first | assumption | rfl)) | ((with_reducible refine' k_ixT ?e2 ?_); (case e2 => first | assumption | rfl)) | ((with_reducible refine' k_itR ?e ?_); (case e => assumption)))
    refine (in_doubt_sat (xs := xs.reverse) (sets := sets.reverse.map List.reverse) (by unfold LS; rw [lst_new, svs, svs, List.map_reverse]) (llf.ll.ext Ext.refl.snoc) (fun x hx => (ok x (by simpa using hx)).1) ((List.reverse_perm xs).nodup_iff.mpr nd) (by simpa using h2) (by simpa using h3) (by simp; omega) ?_).then fun v g2 z => ?_
    · intro ys hy
      simp only [List.mem_map, List.mem_reverse] at hy
      obtain ⟨zs, hz, rfl⟩ := hy
      obtain ⟨a1, a2, a3⟩ := gd zs hz
      exact ⟨fun y hy => by simpa using a1 y (by simpa using hy), (List.reverse_perm zs).nodup_iff.mpr a2, by simpa using a3⟩
    · obtain ⟨t2, x2⟩ := z
      rw [doubt_reverse] at t2
      have xh : Ext g g2 := xg.trans (Ext.refl.snoc.trans x2)
      repeat (first
        | with_reducible refine k_seq ?_ | ((with_reducible refine k_then_nx ?_); try dsimp only [put]) | with_reducible refine k_e2 ?_ | ((with_reducible refine' k_var ?e ?_); (case e => rfl)) | with_reducible refine k_const ?_
        | with_reducible refine k_set ?_ | with_reducible refine k_if ?_ | with_reducible refine k_ret ?_ | with_reducible refine k_eL ?_ | with_reducible refine k_aCons ?_ | with_reducible refine k_aNil ?_ | with_reducible refine k_bT ?_ | with_reducible refine k_onB ?_
        | with_reducible refine k_call1 ?_ | with_reducible refine k_call2 ?_ | with_reducible refine k_call3 ?_ | with_reducible refine k_expr ?_ | with_reducible refine k_for ?_ | with_reducible refine k_meth ?_ | with_reducible refine k_sub ?_ | with_reducible refine k_par ?_ | with_reducible refine k_tup ?_
        | with_reducible refine k_iAny ?_ | with_reducible refine k_iRng1 ?_ | with_reducible refine k_iRng2 ?_ | with_reducible refine k_iEnm ?_ | with_reducible refine k_then_rt ?_ | with_reducible refine k_then_bk ?_ | with_reducible refine k_then_ct ?_ | with_reducible refine k_skip ?_ | with_reducible refine k_break ?_ | with_reducible refine k_cont ?_ | with_reducible refine k_retN ?_
        | with_reducible refine k_e1 ?_ | with_reducible refine k_not ?_ | with_reducible refine k_and ?_ | with_reducible refine k_or ?_ | with_reducible refine k_ifE ?_ | with_reducible refine k_chain ?_ | with_reducible refine k_slice ?_ | with_reducible refine k_oN ?_ | with_reducible refine k_oS ?_ | with_reducible refine k_lc ?_
        | with_reducible refine k_bAnd ?_ | with_reducible refine k_bOr ?_ | with_reducible refine k_bNot ?_ | with_reducible refine k_yes ?_ | with_reducible refine k_onI ?_ | with_reducible refine k_onR ?_ | with_reducible refine k_onL1 ?_ | with_reducible refine k_onL2 ?_ | with_reducible refine k_itT ?_ | with_reducible refine k_itS ?_
        | with_reducible refine k_ends_rt ?_ | with_reducible refine k_ends_nx ?_ | with_reducible refine k_true ?_ | with_reducible refine k_false ?_ | with_reducible refine k_ntrue ?_ | with_reducible refine k_nfalse ?_
        | with_reducible refine k_addI ?_ | with_reducible refine k_subI ?_ | with_reducible refine k_intI ?_ | with_reducible refine k_ltI ?_ | with_reducible refine k_gtI ?_ | with_reducible refine k_leI ?_ | with_reducible refine k_geI ?_ | with_reducible refine k_eqI ?_ | with_reducible refine k_neI ?_ | with_reducible refine k_eqS ?_ | with_reducible refine k_neS ?_ | with_reducible refine k_negI ?_ | with_reducible refine k_notB ?_ | with_reducible refine k_maxI ?_ | with_reducible refine k_minI ?_ | with_reducible refine k_lenS ?_
        | ((with_reducible refine k_mulI ?e ?_); (case e => omega)) | ((with_reducible refine k_divI ?e ?e2 ?_); (case e => omega); (case e2 => omega)) | ((with_reducible refine k_modI ?e ?_); (case e => omega)) | ((with_reducible refine k_powI ?e ?_); (case e => decide))
        | ((with_reducible refine k_lst ?e ?_); (case e => first | decide | (simp; done) | (simp; omega))) | ((with_reducible refine k_tupD ?e ?_); (case e => first | decide | (simp; done)))
        | ((with_reducible refine' k_lenL ?e ?_); (case e => assumption)) | ((with_reducible refine' k_ixL ?e ?e2 ?_); (case e => assumption); (case e2 => first | assumption | rfl)) | ((with_reducible refine' k_ixT ?e2 ?_); (case e2 => first | assumption | rfl)) | ((with_reducible refine' k_itR ?e ?_); (case e => assumption)))
      refine k_neTold t2 (td.ext xh) ?_
      repeat (first
        | with_reducible refine k_seq ?_ | ((with_reducible refine k_then_nx ?_); try dsimp only [put]) | with_reducible refine k_e2 ?_ | ((with_reducible refine' k_var ?e ?_); (case e => rfl)) | with_reducible refine k_const ?_
        | with_reducible refine k_set ?_ | with_reducible refine k_if ?_ | with_reducible refine k_ret ?_ | with_reducible refine k_eL ?_ | with_reducible refine k_aCons ?_ | with_reducible refine k_aNil ?_ | with_reducible refine k_bT ?_ | with_reducible refine k_onB ?_
        | with_reducible refine k_call1 ?_ | with_reducible refine k_call2 ?_ | with_reducible refine k_call3 ?_ | with_reducible refine k_expr ?_ | with_reducible refine k_for ?_ | with_reducible refine k_meth ?_ | with_reducible refine k_sub ?_ | with_reducible refine k_par ?_ | with_reducible refine k_tup ?_
        | with_reducible refine k_iAny ?_ | with_reducible refine k_iRng1 ?_ | with_reducible refine k_iRng2 ?_ | with_reducible refine k_iEnm ?_ | with_reducible refine k_then_rt ?_ | with_reducible refine k_then_bk ?_ | with_reducible refine k_then_ct ?_ | with_reducible refine k_skip ?_ | with_reducible refine k_break ?_ | with_reducible refine k_cont ?_ | with_reducible refine k_retN ?_
        | with_reducible refine k_e1 ?_ | with_reducible refine k_not ?_ | with_reducible refine k_and ?_ | with_reducible refine k_or ?_ | with_reducible refine k_ifE ?_ | with_reducible refine k_chain ?_ | with_reducible refine k_slice ?_ | with_reducible refine k_oN ?_ | with_reducible refine k_oS ?_ | with_reducible refine k_lc ?_
        | with_reducible refine k_bAnd ?_ | with_reducible refine k_bOr ?_ | with_reducible refine k_bNot ?_ | with_reducible refine k_yes ?_ | with_reducible refine k_onI ?_ | with_reducible refine k_onR ?_ | with_reducible refine k_onL1 ?_ | with_reducible refine k_onL2 ?_ | with_reducible refine k_itT ?_ | with_reducible refine k_itS ?_
        | with_reducible refine k_ends_rt ?_ | with_reducible refine k_ends_nx ?_ | with_reducible refine k_true ?_ | with_reducible refine k_false ?_ | with_reducible refine k_ntrue ?_ | with_reducible refine k_nfalse ?_
        | with_reducible refine k_addI ?_ | with_reducible refine k_subI ?_ | with_reducible refine k_intI ?_ | with_reducible refine k_ltI ?_ | with_reducible refine k_gtI ?_ | with_reducible refine k_leI ?_ | with_reducible refine k_geI ?_ | with_reducible refine k_eqI ?_ | with_reducible refine k_neI ?_ | with_reducible refine k_eqS ?_ | with_reducible refine k_neS ?_ | with_reducible refine k_negI ?_ | with_reducible refine k_notB ?_ | with_reducible refine k_maxI ?_ | with_reducible refine k_minI ?_ | with_reducible refine k_lenS ?_
        | ((with_reducible refine k_mulI ?e ?_); (case e => omega)) | ((with_reducible refine k_divI ?e ?e2 ?_); (case e => omega); (case e2 => omega)) | ((with_reducible refine k_modI ?e ?_); (case e => omega)) | ((with_reducible refine k_powI ?e ?_); (case e => decide))
        | ((with_reducible refine k_lst ?e ?_); (case e => first | decide | (simp; done) | (simp; omega))) | ((with_reducible refine k_tupD ?e ?_); (case e => first | decide | (simp; done)))
        | ((with_reducible refine' k_lenL ?e ?_); (case e => assumption)) | ((with_reducible refine' k_ixL ?e ?e2 ?_); (case e => assumption); (case e2 => first | assumption | rfl)) | ((with_reducible refine' k_ixT ?e2 ?_); (case e2 => first | assumption | rfl)) | ((with_reducible refine' k_itR ?e ?_); (case e => assumption)))
      refine k_repr (ep.ext xh) (LL.ext ⟨vs, eq, al⟩ xh) (shown_fits h3 (fun x hx => (ok x hx).2) hs gd) ?_
      repeat (first
        | with_reducible refine k_seq ?_ | ((with_reducible refine k_then_nx ?_); try dsimp only [put]) | with_reducible refine k_e2 ?_ | ((with_reducible refine' k_var ?e ?_); (case e => rfl)) | with_reducible refine k_const ?_
        | with_reducible refine k_set ?_ | with_reducible refine k_if ?_ | with_reducible refine k_ret ?_ | with_reducible refine k_eL ?_ | with_reducible refine k_aCons ?_ | with_reducible refine k_aNil ?_ | with_reducible refine k_bT ?_ | with_reducible refine k_onB ?_
        | with_reducible refine k_call1 ?_ | with_reducible refine k_call2 ?_ | with_reducible refine k_call3 ?_ | with_reducible refine k_expr ?_ | with_reducible refine k_for ?_ | with_reducible refine k_meth ?_ | with_reducible refine k_sub ?_ | with_reducible refine k_par ?_ | with_reducible refine k_tup ?_
        | with_reducible refine k_iAny ?_ | with_reducible refine k_iRng1 ?_ | with_reducible refine k_iRng2 ?_ | with_reducible refine k_iEnm ?_ | with_reducible refine k_then_rt ?_ | with_reducible refine k_then_bk ?_ | with_reducible refine k_then_ct ?_ | with_reducible refine k_skip ?_ | with_reducible refine k_break ?_ | with_reducible refine k_cont ?_ | with_reducible refine k_retN ?_
        | with_reducible refine k_e1 ?_ | with_reducible refine k_not ?_ | with_reducible refine k_and ?_ | with_reducible refine k_or ?_ | with_reducible refine k_ifE ?_ | with_reducible refine k_chain ?_ | with_reducible refine k_slice ?_ | with_reducible refine k_oN ?_ | with_reducible refine k_oS ?_ | with_reducible refine k_lc ?_
        | with_reducible refine k_bAnd ?_ | with_reducible refine k_bOr ?_ | with_reducible refine k_bNot ?_ | with_reducible refine k_yes ?_ | with_reducible refine k_onI ?_ | with_reducible refine k_onR ?_ | with_reducible refine k_onL1 ?_ | with_reducible refine k_onL2 ?_ | with_reducible refine k_itT ?_ | with_reducible refine k_itS ?_
        | with_reducible refine k_ends_rt ?_ | with_reducible refine k_ends_nx ?_ | with_reducible refine k_true ?_ | with_reducible refine k_false ?_ | with_reducible refine k_ntrue ?_ | with_reducible refine k_nfalse ?_
        | with_reducible refine k_addI ?_ | with_reducible refine k_subI ?_ | with_reducible refine k_intI ?_ | with_reducible refine k_ltI ?_ | with_reducible refine k_gtI ?_ | with_reducible refine k_leI ?_ | with_reducible refine k_geI ?_ | with_reducible refine k_eqI ?_ | with_reducible refine k_neI ?_ | with_reducible refine k_eqS ?_ | with_reducible refine k_neS ?_ | with_reducible refine k_negI ?_ | with_reducible refine k_notB ?_ | with_reducible refine k_maxI ?_ | with_reducible refine k_minI ?_ | with_reducible refine k_lenS ?_
        | ((with_reducible refine k_mulI ?e ?_); (case e => omega)) | ((with_reducible refine k_divI ?e ?e2 ?_); (case e => omega); (case e2 => omega)) | ((with_reducible refine k_modI ?e ?_); (case e => omega)) | ((with_reducible refine k_powI ?e ?_); (case e => decide))
        | ((with_reducible refine k_lst ?e ?_); (case e => first | decide | (simp; done) | (simp; omega))) | ((with_reducible refine k_tupD ?e ?_); (case e => first | decide | (simp; done)))
        | ((with_reducible refine' k_lenL ?e ?_); (case e => assumption)) | ((with_reducible refine' k_ixL ?e ?e2 ?_); (case e => assumption); (case e2 => first | assumption | rfl)) | ((with_reducible refine' k_ixT ?e2 ?_); (case e2 => first | assumption | rfl)) | ((with_reducible refine' k_itR ?e ?_); (case e => assumption)))
      refine k_decN (fun n => absurd rfl n) fun _ => ?_
      repeat (first
        | with_reducible refine k_seq ?_ | ((with_reducible refine k_then_nx ?_); try dsimp only [put]) | with_reducible refine k_e2 ?_ | ((with_reducible refine' k_var ?e ?_); (case e => rfl)) | with_reducible refine k_const ?_
        | with_reducible refine k_set ?_ | with_reducible refine k_if ?_ | with_reducible refine k_ret ?_ | with_reducible refine k_eL ?_ | with_reducible refine k_aCons ?_ | with_reducible refine k_aNil ?_ | with_reducible refine k_bT ?_ | with_reducible refine k_onB ?_
        | with_reducible refine k_call1 ?_ | with_reducible refine k_call2 ?_ | with_reducible refine k_call3 ?_ | with_reducible refine k_expr ?_ | with_reducible refine k_for ?_ | with_reducible refine k_meth ?_ | with_reducible refine k_sub ?_ | with_reducible refine k_par ?_ | with_reducible refine k_tup ?_
        | with_reducible refine k_iAny ?_ | with_reducible refine k_iRng1 ?_ | with_reducible refine k_iRng2 ?_ | with_reducible refine k_iEnm ?_ | with_reducible refine k_then_rt ?_ | with_reducible refine k_then_bk ?_ | with_reducible refine k_then_ct ?_ | with_reducible refine k_skip ?_ | with_reducible refine k_break ?_ | with_reducible refine k_cont ?_ | with_reducible refine k_retN ?_
        | with_reducible refine k_e1 ?_ | with_reducible refine k_not ?_ | with_reducible refine k_and ?_ | with_reducible refine k_or ?_ | with_reducible refine k_ifE ?_ | with_reducible refine k_chain ?_ | with_reducible refine k_slice ?_ | with_reducible refine k_oN ?_ | with_reducible refine k_oS ?_ | with_reducible refine k_lc ?_
        | with_reducible refine k_bAnd ?_ | with_reducible refine k_bOr ?_ | with_reducible refine k_bNot ?_ | with_reducible refine k_yes ?_ | with_reducible refine k_onI ?_ | with_reducible refine k_onR ?_ | with_reducible refine k_onL1 ?_ | with_reducible refine k_onL2 ?_ | with_reducible refine k_itT ?_ | with_reducible refine k_itS ?_
        | with_reducible refine k_ends_rt ?_ | with_reducible refine k_ends_nx ?_ | with_reducible refine k_true ?_ | with_reducible refine k_false ?_ | with_reducible refine k_ntrue ?_ | with_reducible refine k_nfalse ?_
        | with_reducible refine k_addI ?_ | with_reducible refine k_subI ?_ | with_reducible refine k_intI ?_ | with_reducible refine k_ltI ?_ | with_reducible refine k_gtI ?_ | with_reducible refine k_leI ?_ | with_reducible refine k_geI ?_ | with_reducible refine k_eqI ?_ | with_reducible refine k_neI ?_ | with_reducible refine k_eqS ?_ | with_reducible refine k_neS ?_ | with_reducible refine k_negI ?_ | with_reducible refine k_notB ?_ | with_reducible refine k_maxI ?_ | with_reducible refine k_minI ?_ | with_reducible refine k_lenS ?_
        | ((with_reducible refine k_mulI ?e ?_); (case e => omega)) | ((with_reducible refine k_divI ?e ?e2 ?_); (case e => omega); (case e2 => omega)) | ((with_reducible refine k_modI ?e ?_); (case e => omega)) | ((with_reducible refine k_powI ?e ?_); (case e => decide))
        | ((with_reducible refine k_lst ?e ?_); (case e => first | decide | (simp; done) | (simp; omega))) | ((with_reducible refine k_tupD ?e ?_); (case e => first | decide | (simp; done)))
        | ((with_reducible refine' k_lenL ?e ?_); (case e => assumption)) | ((with_reducible refine' k_ixL ?e ?e2 ?_); (case e => assumption); (case e2 => first | assumption | rfl)) | ((with_reducible refine' k_ixT ?e2 ?_); (case e2 => first | assumption | rfl)) | ((with_reducible refine' k_itR ?e ?_); (case e => assumption)))
      exact ⟨_, rfl, xh⟩
theorem cmb3_len {xs tr : List Str} {sets : List (List Str)} (h : doubtF (ssort xs) sets = some tr) : tr.length = 3 := cmb_mem_len 3 (ssort xs) tr (List.mem_of_find?_eq_some h)
theorem law_sat (ns : List Int) : Sat (d_law [.scr ns] []) (fun v _ => v = .bl true) NoX := by
  unfold d_law
  refine st_fn' (σ0 := [some (.scr ns), none, none, none, none, none, none, none, none, none, none, none, none, none]) rfl ?_
  repeat (first
    | with_reducible refine k_seq ?_ | ((with_reducible refine k_then_nx ?_); try dsimp only [put]) | with_reducible refine k_e2 ?_ | ((with_reducible refine' k_var ?e ?_); (case e => rfl)) | with_reducible refine k_const ?_
    | with_reducible refine k_set ?_ | with_reducible refine k_if ?_ | with_reducible refine k_ret ?_ | with_reducible refine k_eL ?_ | with_reducible refine k_aCons ?_ | with_reducible refine k_aNil ?_ | with_reducible refine k_bT ?_ | with_reducible refine k_onB ?_
    | with_reducible refine k_call1 ?_ | with_reducible refine k_call2 ?_ | with_reducible refine k_call3 ?_ | with_reducible refine k_expr ?_ | with_reducible refine k_for ?_ | with_reducible refine k_meth ?_ | with_reducible refine k_sub ?_ | with_reducible refine k_par ?_ | with_reducible refine k_tup ?_
    | with_reducible refine k_iAny ?_ | with_reducible refine k_iRng1 ?_ | with_reducible refine k_iRng2 ?_ | with_reducible refine k_iEnm ?_ | with_reducible refine k_then_rt ?_ | with_reducible refine k_then_bk ?_ | with_reducible refine k_then_ct ?_ | with_reducible refine k_skip ?_ | with_reducible refine k_break ?_ | with_reducible refine k_cont ?_ | with_reducible refine k_retN ?_
    | with_reducible refine k_e1 ?_ | with_reducible refine k_not ?_ | with_reducible refine k_and ?_ | with_reducible refine k_or ?_ | with_reducible refine k_ifE ?_ | with_reducible refine k_chain ?_ | with_reducible refine k_slice ?_ | with_reducible refine k_oN ?_ | with_reducible refine k_oS ?_ | with_reducible refine k_lc ?_
    | with_reducible refine k_bAnd ?_ | with_reducible refine k_bOr ?_ | with_reducible refine k_bNot ?_ | with_reducible refine k_yes ?_ | with_reducible refine k_onI ?_ | with_reducible refine k_onR ?_ | with_reducible refine k_onL1 ?_ | with_reducible refine k_onL2 ?_ | with_reducible refine k_itT ?_ | with_reducible refine k_itS ?_
    | with_reducible refine k_ends_rt ?_ | with_reducible refine k_ends_nx ?_ | with_reducible refine k_true ?_ | with_reducible refine k_false ?_ | with_reducible refine k_ntrue ?_ | with_reducible refine k_nfalse ?_
    | with_reducible refine k_addI ?_ | with_reducible refine k_subI ?_ | with_reducible refine k_intI ?_ | with_reducible refine k_ltI ?_ | with_reducible refine k_gtI ?_ | with_reducible refine k_leI ?_ | with_reducible refine k_geI ?_ | with_reducible refine k_eqI ?_ | with_reducible refine k_neI ?_ | with_reducible refine k_eqS ?_ | with_reducible refine k_neS ?_ | with_reducible refine k_negI ?_ | with_reducible refine k_notB ?_ | with_reducible refine k_maxI ?_ | with_reducible refine k_minI ?_ | with_reducible refine k_lenS ?_
    | ((with_reducible refine k_mulI ?e ?_); (case e => omega)) | ((with_reducible refine k_divI ?e ?e2 ?_); (case e => omega); (case e2 => omega)) | ((with_reducible refine k_modI ?e ?_); (case e => omega)) | ((with_reducible refine k_powI ?e ?_); (case e => decide))
    | ((with_reducible refine k_lst ?e ?_); (case e => first | decide | (simp; done) | (simp; omega))) | ((with_reducible refine k_tupD ?e ?_); (case e => first | decide | (simp; done)))
    | ((with_reducible refine' k_lenL ?e ?_); (case e => assumption)) | ((with_reducible refine' k_ixL ?e ?e2 ?_); (case e => assumption); (case e2 => first | assumption | rfl)) | ((with_reducible refine' k_ixT ?e2 ?_); (case e2 => first | assumption | rfl)) | ((with_reducible refine' k_itR ?e ?_); (case e => assumption)))
  obtain ⟨n, hn, hn5⟩ : ∃ n : Nat, (if (if ((ns.length : Nat) : Int) < 5 then ((ns.length : Nat) : Int) else 5) > 1 then (if ((ns.length : Nat) : Int) < 5 then ((ns.length : Nat) : Int) else 5) else 1) = (n : Int) ∧ n ≤ 5 := by
    by_cases h5 : ((ns.length : Nat) : Int) < 5
    · by_cases h1 : ((ns.length : Nat) : Int) > 1
      · exact ⟨ns.length, by simp only [if_pos h5, if_pos h1], by omega⟩
      · exact ⟨1, by simp only [if_pos h5, if_neg h1]; rfl, by omega⟩
    · exact ⟨5, by simp only [if_neg h5]; rfl, by omega⟩
  rw [hn]
  refine ⟨by omega, by omega, ?_⟩
  refine st_forF n (fun i σ g => ∃ o1 o2 o3 o4 o5 o6 o7 o8 o9 o10 o11, σ = [some (.scr ns), o1, o2, o3, o4, o5, o6, o7, o8, o9, o10, o11, none, none])
    ⟨none, none, none, none, none, none, none, none, none, none, none, rfl⟩ (by omega) fun i σ g hi w => ?_
  obtain ⟨o1, o2, o3, o4, o5, o6, o7, o8, o9, o10, o11, rfl⟩ := w
  by_cases hlt : i < n
  · refine .inr ⟨hlt, .int (0 + i), _, by simp [itAt, hlt], rfl, ?_⟩
    repeat (first
      | with_reducible refine k_seq ?_ | ((with_reducible refine k_then_nx ?_); try dsimp only [put]) | with_reducible refine k_e2 ?_ | ((with_reducible refine' k_var ?e ?_); (case e => rfl)) | with_reducible refine k_const ?_
      | with_reducible refine k_set ?_ | with_reducible refine k_if ?_ | with_reducible refine k_ret ?_ | with_reducible refine k_eL ?_ | with_reducible refine k_aCons ?_ | with_reducible refine k_aNil ?_ | with_reducible refine k_bT ?_ | with_reducible refine k_onB ?_
      | with_reducible refine k_call1 ?_ | with_reducible refine k_call2 ?_ | with_reducible refine k_call3 ?_ | with_reducible refine k_expr ?_ | with_reducible refine k_for ?_ | with_reducible refine k_meth ?_ | with_reducible refine k_sub ?_ | with_reducible refine k_par ?_ | with_reducible refine k_tup ?_
      | with_reducible refine k_iAny ?_ | with_reducible refine k_iRng1 ?_ | with_reducible refine k_iRng2 ?_ | with_reducible refine k_iEnm ?_ | with_reducible refine k_then_rt ?_ | with_reducible refine k_then_bk ?_ | with_reducible refine k_then_ct ?_ | with_reducible refine k_skip ?_ | with_reducible refine k_break ?_ | with_reducible refine k_cont ?_ | with_reducible refine k_retN ?_
      | with_reducible refine k_e1 ?_ | with_reducible refine k_not ?_ | with_reducible refine k_and ?_ | with_reducible refine k_or ?_ | with_reducible refine k_ifE ?_ | with_reducible refine k_chain ?_ | with_reducible refine k_slice ?_ | with_reducible refine k_oN ?_ | with_reducible refine k_oS ?_ | with_reducible refine k_lc ?_
      | with_reducible refine k_bAnd ?_ | with_reducible refine k_bOr ?_ | with_reducible refine k_bNot ?_ | with_reducible refine k_yes ?_ | with_reducible refine k_onI ?_ | with_reducible refine k_onR ?_ | with_reducible refine k_onL1 ?_ | with_reducible refine k_onL2 ?_ | with_reducible refine k_itT ?_ | with_reducible refine k_itS ?_
      | with_reducible refine k_ends_rt ?_ | with_reducible refine k_ends_nx ?_ | with_reducible refine k_true ?_ | with_reducible refine k_false ?_ | with_reducible refine k_ntrue ?_ | with_reducible refine k_nfalse ?_
      | with_reducible refine k_addI ?_ | with_reducible refine k_subI ?_ | with_reducible refine k_intI ?_ | with_reducible refine k_ltI ?_ | with_reducible refine k_gtI ?_ | with_reducible refine k_leI ?_ | with_reducible refine k_geI ?_ | with_reducible refine k_eqI ?_ | with_reducible refine k_neI ?_ | with_reducible refine k_eqS ?_ | with_reducible refine k_neS ?_ | with_reducible refine k_negI ?_ | with_reducible refine k_notB ?_ | with_reducible refine k_maxI ?_ | with_reducible refine k_minI ?_ | with_reducible refine k_lenS ?_
      | ((with_reducible refine k_mulI ?e ?_); (case e => omega)) | ((with_reducible refine k_divI ?e ?e2 ?_); (case e => omega); (case e2 => omega)) | ((with_reducible refine k_modI ?e ?_); (case e => omega)) | ((with_reducible refine k_powI ?e ?_); (case e => decide))
      | ((with_reducible refine k_lst ?e ?_); (case e => first | decide | (simp; done) | (simp; omega))) | ((with_reducible refine k_tupD ?e ?_); (case e => first | decide | (simp; done)))
      | ((with_reducible refine' k_lenL ?e ?_); (case e => assumption)) | ((with_reducible refine' k_ixL ?e ?e2 ?_); (case e => assumption); (case e2 => first | assumption | rfl)) | ((with_reducible refine' k_ixT ?e2 ?_); (case e2 => first | assumption | rfl)) | ((with_reducible refine' k_itR ?e ?_); (case e => assumption)))
    refine (source_sat ns (0 + i) (by omega) g).then fun v g1 z => ?_
    obtain ⟨rfl, x1, l1, s1⟩ := z
    repeat (first
      | with_reducible refine k_seq ?_ | ((with_reducible refine k_then_nx ?_); try dsimp only [put]) | with_reducible refine k_e2 ?_ | ((with_reducible refine' k_var ?e ?_); (case e => rfl)) | with_reducible refine k_const ?_
      | with_reducible refine k_set ?_ | with_reducible refine k_if ?_ | with_reducible refine k_ret ?_ | with_reducible refine k_eL ?_ | with_reducible refine k_aCons ?_ | with_reducible refine k_aNil ?_ | with_reducible refine k_bT ?_ | with_reducible refine k_onB ?_
      | with_reducible refine k_call1 ?_ | with_reducible refine k_call2 ?_ | with_reducible refine k_call3 ?_ | with_reducible refine k_expr ?_ | with_reducible refine k_for ?_ | with_reducible refine k_meth ?_ | with_reducible refine k_sub ?_ | with_reducible refine k_par ?_ | with_reducible refine k_tup ?_
      | with_reducible refine k_iAny ?_ | with_reducible refine k_iRng1 ?_ | with_reducible refine k_iRng2 ?_ | with_reducible refine k_iEnm ?_ | with_reducible refine k_then_rt ?_ | with_reducible refine k_then_bk ?_ | with_reducible refine k_then_ct ?_ | with_reducible refine k_skip ?_ | with_reducible refine k_break ?_ | with_reducible refine k_cont ?_ | with_reducible refine k_retN ?_
      | with_reducible refine k_e1 ?_ | with_reducible refine k_not ?_ | with_reducible refine k_and ?_ | with_reducible refine k_or ?_ | with_reducible refine k_ifE ?_ | with_reducible refine k_chain ?_ | with_reducible refine k_slice ?_ | with_reducible refine k_oN ?_ | with_reducible refine k_oS ?_ | with_reducible refine k_lc ?_
      | with_reducible refine k_bAnd ?_ | with_reducible refine k_bOr ?_ | with_reducible refine k_bNot ?_ | with_reducible refine k_yes ?_ | with_reducible refine k_onI ?_ | with_reducible refine k_onR ?_ | with_reducible refine k_onL1 ?_ | with_reducible refine k_onL2 ?_ | with_reducible refine k_itT ?_ | with_reducible refine k_itS ?_
      | with_reducible refine k_ends_rt ?_ | with_reducible refine k_ends_nx ?_ | with_reducible refine k_true ?_ | with_reducible refine k_false ?_ | with_reducible refine k_ntrue ?_ | with_reducible refine k_nfalse ?_
      | with_reducible refine k_addI ?_ | with_reducible refine k_subI ?_ | with_reducible refine k_intI ?_ | with_reducible refine k_ltI ?_ | with_reducible refine k_gtI ?_ | with_reducible refine k_leI ?_ | with_reducible refine k_geI ?_ | with_reducible refine k_eqI ?_ | with_reducible refine k_neI ?_ | with_reducible refine k_eqS ?_ | with_reducible refine k_neS ?_ | with_reducible refine k_negI ?_ | with_reducible refine k_notB ?_ | with_reducible refine k_maxI ?_ | with_reducible refine k_minI ?_ | with_reducible refine k_lenS ?_
      | ((with_reducible refine k_mulI ?e ?_); (case e => omega)) | ((with_reducible refine k_divI ?e ?e2 ?_); (case e => omega); (case e2 => omega)) | ((with_reducible refine k_modI ?e ?_); (case e => omega)) | ((with_reducible refine k_powI ?e ?_); (case e => decide))
      | ((with_reducible refine k_lst ?e ?_); (case e => first | decide | (simp; done) | (simp; omega))) | ((with_reducible refine k_tupD ?e ?_); (case e => first | decide | (simp; done)))
      | ((with_reducible refine' k_lenL ?e ?_); (case e => assumption)) | ((with_reducible refine' k_ixL ?e ?e2 ?_); (case e => assumption); (case e2 => first | assumption | rfl)) | ((with_reducible refine' k_ixT ?e2 ?_); (case e2 => first | assumption | rfl)) | ((with_reducible refine' k_itR ?e ?_); (case e => assumption)))
    refine (next_sat s1 (by omega) (by omega)).then fun v g2 z => ?_
    obtain ⟨r, rfl, r0, r8, m2⟩ := z
    obtain ⟨many, rfl⟩ := Int.eq_ofNat_of_zero_le r0
    repeat (first
      | with_reducible refine k_seq ?_ | ((with_reducible refine k_then_nx ?_); try dsimp only [put]) | with_reducible refine k_e2 ?_ | ((with_reducible refine' k_var ?e ?_); (case e => rfl)) | with_reducible refine k_const ?_
      | with_reducible refine k_set ?_ | with_reducible refine k_if ?_ | with_reducible refine k_ret ?_ | with_reducible refine k_eL ?_ | with_reducible refine k_aCons ?_ | with_reducible refine k_aNil ?_ | with_reducible refine k_bT ?_ | with_reducible refine k_onB ?_
      | with_reducible refine k_call1 ?_ | with_reducible refine k_call2 ?_ | with_reducible refine k_call3 ?_ | with_reducible refine k_expr ?_ | with_reducible refine k_for ?_ | with_reducible refine k_meth ?_ | with_reducible refine k_sub ?_ | with_reducible refine k_par ?_ | with_reducible refine k_tup ?_
      | with_reducible refine k_iAny ?_ | with_reducible refine k_iRng1 ?_ | with_reducible refine k_iRng2 ?_ | with_reducible refine k_iEnm ?_ | with_reducible refine k_then_rt ?_ | with_reducible refine k_then_bk ?_ | with_reducible refine k_then_ct ?_ | with_reducible refine k_skip ?_ | with_reducible refine k_break ?_ | with_reducible refine k_cont ?_ | with_reducible refine k_retN ?_
      | with_reducible refine k_e1 ?_ | with_reducible refine k_not ?_ | with_reducible refine k_and ?_ | with_reducible refine k_or ?_ | with_reducible refine k_ifE ?_ | with_reducible refine k_chain ?_ | with_reducible refine k_slice ?_ | with_reducible refine k_oN ?_ | with_reducible refine k_oS ?_ | with_reducible refine k_lc ?_
      | with_reducible refine k_bAnd ?_ | with_reducible refine k_bOr ?_ | with_reducible refine k_bNot ?_ | with_reducible refine k_yes ?_ | with_reducible refine k_onI ?_ | with_reducible refine k_onR ?_ | with_reducible refine k_onL1 ?_ | with_reducible refine k_onL2 ?_ | with_reducible refine k_itT ?_ | with_reducible refine k_itS ?_
      | with_reducible refine k_ends_rt ?_ | with_reducible refine k_ends_nx ?_ | with_reducible refine k_true ?_ | with_reducible refine k_false ?_ | with_reducible refine k_ntrue ?_ | with_reducible refine k_nfalse ?_
      | with_reducible refine k_addI ?_ | with_reducible refine k_subI ?_ | with_reducible refine k_intI ?_ | with_reducible refine k_ltI ?_ | with_reducible refine k_gtI ?_ | with_reducible refine k_leI ?_ | with_reducible refine k_geI ?_ | with_reducible refine k_eqI ?_ | with_reducible refine k_neI ?_ | with_reducible refine k_eqS ?_ | with_reducible refine k_neS ?_ | with_reducible refine k_negI ?_ | with_reducible refine k_notB ?_ | with_reducible refine k_maxI ?_ | with_reducible refine k_minI ?_ | with_reducible refine k_lenS ?_
      | ((with_reducible refine k_mulI ?e ?_); (case e => omega)) | ((with_reducible refine k_divI ?e ?e2 ?_); (case e => omega); (case e2 => omega)) | ((with_reducible refine k_modI ?e ?_); (case e => omega)) | ((with_reducible refine k_powI ?e ?_); (case e => decide))
      | ((with_reducible refine k_lst ?e ?_); (case e => first | decide | (simp; done) | (simp; omega))) | ((with_reducible refine k_tupD ?e ?_); (case e => first | decide | (simp; done)))
      | ((with_reducible refine' k_lenL ?e ?_); (case e => assumption)) | ((with_reducible refine' k_ixL ?e ?e2 ?_); (case e => assumption); (case e2 => first | assumption | rfl)) | ((with_reducible refine' k_ixT ?e2 ?_); (case e2 => first | assumption | rfl)) | ((with_reducible refine' k_itR ?e ?_); (case e => assumption)))
    rw [show (2 + (many : Int)) = ((2 + many : Nat) : Int) by omega]
    refine (shuffled_sat (xs := svs baseL) m2.snoc.src lst_new (by decide)).then fun v g3 z => ?_
    obtain ⟨p3, zs, rfl, hp3, e3, pm, m3⟩ := z
    obtain ⟨ys, rfl, pm'⟩ := perm_svs pm
    repeat (first
      | with_reducible refine k_seq ?_ | ((with_reducible refine k_then_nx ?_); try dsimp only [put]) | with_reducible refine k_e2 ?_ | ((with_reducible refine' k_var ?e ?_); (case e => rfl)) | with_reducible refine k_const ?_
      | with_reducible refine k_set ?_ | with_reducible refine k_if ?_ | with_reducible refine k_ret ?_ | with_reducible refine k_eL ?_ | with_reducible refine k_aCons ?_ | with_reducible refine k_aNil ?_ | with_reducible refine k_bT ?_ | with_reducible refine k_onB ?_
      | with_reducible refine k_call1 ?_ | with_reducible refine k_call2 ?_ | with_reducible refine k_call3 ?_ | with_reducible refine k_expr ?_ | with_reducible refine k_for ?_ | with_reducible refine k_meth ?_ | with_reducible refine k_sub ?_ | with_reducible refine k_par ?_ | with_reducible refine k_tup ?_
      | with_reducible refine k_iAny ?_ | with_reducible refine k_iRng1 ?_ | with_reducible refine k_iRng2 ?_ | with_reducible refine k_iEnm ?_ | with_reducible refine k_then_rt ?_ | with_reducible refine k_then_bk ?_ | with_reducible refine k_then_ct ?_ | with_reducible refine k_skip ?_ | with_reducible refine k_break ?_ | with_reducible refine k_cont ?_ | with_reducible refine k_retN ?_
      | with_reducible refine k_e1 ?_ | with_reducible refine k_not ?_ | with_reducible refine k_and ?_ | with_reducible refine k_or ?_ | with_reducible refine k_ifE ?_ | with_reducible refine k_chain ?_ | with_reducible refine k_slice ?_ | with_reducible refine k_oN ?_ | with_reducible refine k_oS ?_ | with_reducible refine k_lc ?_
      | with_reducible refine k_bAnd ?_ | with_reducible refine k_bOr ?_ | with_reducible refine k_bNot ?_ | with_reducible refine k_yes ?_ | with_reducible refine k_onI ?_ | with_reducible refine k_onR ?_ | with_reducible refine k_onL1 ?_ | with_reducible refine k_onL2 ?_ | with_reducible refine k_itT ?_ | with_reducible refine k_itS ?_
      | with_reducible refine k_ends_rt ?_ | with_reducible refine k_ends_nx ?_ | with_reducible refine k_true ?_ | with_reducible refine k_false ?_ | with_reducible refine k_ntrue ?_ | with_reducible refine k_nfalse ?_
      | with_reducible refine k_addI ?_ | with_reducible refine k_subI ?_ | with_reducible refine k_intI ?_ | with_reducible refine k_ltI ?_ | with_reducible refine k_gtI ?_ | with_reducible refine k_leI ?_ | with_reducible refine k_geI ?_ | with_reducible refine k_eqI ?_ | with_reducible refine k_neI ?_ | with_reducible refine k_eqS ?_ | with_reducible refine k_neS ?_ | with_reducible refine k_negI ?_ | with_reducible refine k_notB ?_ | with_reducible refine k_maxI ?_ | with_reducible refine k_minI ?_ | with_reducible refine k_lenS ?_
      | ((with_reducible refine k_mulI ?e ?_); (case e => omega)) | ((with_reducible refine k_divI ?e ?e2 ?_); (case e => omega); (case e2 => omega)) | ((with_reducible refine k_modI ?e ?_); (case e => omega)) | ((with_reducible refine k_powI ?e ?_); (case e => decide))
      | ((with_reducible refine k_lst ?e ?_); (case e => first | decide | (simp; done) | (simp; omega))) | ((with_reducible refine k_tupD ?e ?_); (case e => first | decide | (simp; done)))
      | ((with_reducible refine' k_lenL ?e ?_); (case e => assumption)) | ((with_reducible refine' k_ixL ?e ?e2 ?_); (case e => assumption); (case e2 => first | assumption | rfl)) | ((with_reducible refine' k_ixT ?e2 ?_); (case e2 => first | assumption | rfl)) | ((with_reducible refine' k_itR ?e ?_); (case e => assumption)))
    refine k_slL e3 ?_
    rw [cut_to]
    have mA := (m2.snoc.trans m3).snoc (o := .lst ((svs ys).take (2 + many)))
    repeat (first
      | with_reducible refine k_seq ?_ | ((with_reducible refine k_then_nx ?_); try dsimp only [put]) | with_reducible refine k_e2 ?_ | ((with_reducible refine' k_var ?e ?_); (case e => rfl)) | with_reducible refine k_const ?_
      | with_reducible refine k_set ?_ | with_reducible refine k_if ?_ | with_reducible refine k_ret ?_ | with_reducible refine k_eL ?_ | with_reducible refine k_aCons ?_ | with_reducible refine k_aNil ?_ | with_reducible refine k_bT ?_ | with_reducible refine k_onB ?_
      | with_reducible refine k_call1 ?_ | with_reducible refine k_call2 ?_ | with_reducible refine k_call3 ?_ | with_reducible refine k_expr ?_ | with_reducible refine k_for ?_ | with_reducible refine k_meth ?_ | with_reducible refine k_sub ?_ | with_reducible refine k_par ?_ | with_reducible refine k_tup ?_
      | with_reducible refine k_iAny ?_ | with_reducible refine k_iRng1 ?_ | with_reducible refine k_iRng2 ?_ | with_reducible refine k_iEnm ?_ | with_reducible refine k_then_rt ?_ | with_reducible refine k_then_bk ?_ | with_reducible refine k_then_ct ?_ | with_reducible refine k_skip ?_ | with_reducible refine k_break ?_ | with_reducible refine k_cont ?_ | with_reducible refine k_retN ?_
      | with_reducible refine k_e1 ?_ | with_reducible refine k_not ?_ | with_reducible refine k_and ?_ | with_reducible refine k_or ?_ | with_reducible refine k_ifE ?_ | with_reducible refine k_chain ?_ | with_reducible refine k_slice ?_ | with_reducible refine k_oN ?_ | with_reducible refine k_oS ?_ | with_reducible refine k_lc ?_
      | with_reducible refine k_bAnd ?_ | with_reducible refine k_bOr ?_ | with_reducible refine k_bNot ?_ | with_reducible refine k_yes ?_ | with_reducible refine k_onI ?_ | with_reducible refine k_onR ?_ | with_reducible refine k_onL1 ?_ | with_reducible refine k_onL2 ?_ | with_reducible refine k_itT ?_ | with_reducible refine k_itS ?_
      | with_reducible refine k_ends_rt ?_ | with_reducible refine k_ends_nx ?_ | with_reducible refine k_true ?_ | with_reducible refine k_false ?_ | with_reducible refine k_ntrue ?_ | with_reducible refine k_nfalse ?_
      | with_reducible refine k_addI ?_ | with_reducible refine k_subI ?_ | with_reducible refine k_intI ?_ | with_reducible refine k_ltI ?_ | with_reducible refine k_gtI ?_ | with_reducible refine k_leI ?_ | with_reducible refine k_geI ?_ | with_reducible refine k_eqI ?_ | with_reducible refine k_neI ?_ | with_reducible refine k_eqS ?_ | with_reducible refine k_neS ?_ | with_reducible refine k_negI ?_ | with_reducible refine k_notB ?_ | with_reducible refine k_maxI ?_ | with_reducible refine k_minI ?_ | with_reducible refine k_lenS ?_
      | ((with_reducible refine k_mulI ?e ?_); (case e => omega)) | ((with_reducible refine k_divI ?e ?e2 ?_); (case e => omega); (case e2 => omega)) | ((with_reducible refine k_modI ?e ?_); (case e => omega)) | ((with_reducible refine k_powI ?e ?_); (case e => decide))
      | ((with_reducible refine k_lst ?e ?_); (case e => first | decide | (simp; done) | (simp; omega))) | ((with_reducible refine k_tupD ?e ?_); (case e => first | decide | (simp; done)))
      | ((with_reducible refine' k_lenL ?e ?_); (case e => assumption)) | ((with_reducible refine' k_ixL ?e ?e2 ?_); (case e => assumption); (case e2 => first | assumption | rfl)) | ((with_reducible refine' k_ixT ?e2 ?_); (case e2 => first | assumption | rfl)) | ((with_reducible refine' k_itR ?e ?_); (case e => assumption)))
    refine (next_sat mA.src (by omega) (by omega)).then fun v g4 z => ?_
    obtain ⟨r, rfl, r0', r6, m4⟩ := z
    obtain ⟨wn, rfl⟩ := Int.eq_ofNat_of_zero_le r0'
    repeat (first
      | with_reducible refine k_seq ?_ | ((with_reducible refine k_then_nx ?_); try dsimp only [put]) | with_reducible refine k_e2 ?_ | ((with_reducible refine' k_var ?e ?_); (case e => rfl)) | with_reducible refine k_const ?_
      | with_reducible refine k_set ?_ | with_reducible refine k_if ?_ | with_reducible refine k_ret ?_ | with_reducible refine k_eL ?_ | with_reducible refine k_aCons ?_ | with_reducible refine k_aNil ?_ | with_reducible refine k_bT ?_ | with_reducible refine k_onB ?_
      | with_reducible refine k_call1 ?_ | with_reducible refine k_call2 ?_ | with_reducible refine k_call3 ?_ | with_reducible refine k_expr ?_ | with_reducible refine k_for ?_ | with_reducible refine k_meth ?_ | with_reducible refine k_sub ?_ | with_reducible refine k_par ?_ | with_reducible refine k_tup ?_
      | with_reducible refine k_iAny ?_ | with_reducible refine k_iRng1 ?_ | with_reducible refine k_iRng2 ?_ | with_reducible refine k_iEnm ?_ | with_reducible refine k_then_rt ?_ | with_reducible refine k_then_bk ?_ | with_reducible refine k_then_ct ?_ | with_reducible refine k_skip ?_ | with_reducible refine k_break ?_ | with_reducible refine k_cont ?_ | with_reducible refine k_retN ?_
      | with_reducible refine k_e1 ?_ | with_reducible refine k_not ?_ | with_reducible refine k_and ?_ | with_reducible refine k_or ?_ | with_reducible refine k_ifE ?_ | with_reducible refine k_chain ?_ | with_reducible refine k_slice ?_ | with_reducible refine k_oN ?_ | with_reducible refine k_oS ?_ | with_reducible refine k_lc ?_
      | with_reducible refine k_bAnd ?_ | with_reducible refine k_bOr ?_ | with_reducible refine k_bNot ?_ | with_reducible refine k_yes ?_ | with_reducible refine k_onI ?_ | with_reducible refine k_onR ?_ | with_reducible refine k_onL1 ?_ | with_reducible refine k_onL2 ?_ | with_reducible refine k_itT ?_ | with_reducible refine k_itS ?_
      | with_reducible refine k_ends_rt ?_ | with_reducible refine k_ends_nx ?_ | with_reducible refine k_true ?_ | with_reducible refine k_false ?_ | with_reducible refine k_ntrue ?_ | with_reducible refine k_nfalse ?_
      | with_reducible refine k_addI ?_ | with_reducible refine k_subI ?_ | with_reducible refine k_intI ?_ | with_reducible refine k_ltI ?_ | with_reducible refine k_gtI ?_ | with_reducible refine k_leI ?_ | with_reducible refine k_geI ?_ | with_reducible refine k_eqI ?_ | with_reducible refine k_neI ?_ | with_reducible refine k_eqS ?_ | with_reducible refine k_neS ?_ | with_reducible refine k_negI ?_ | with_reducible refine k_notB ?_ | with_reducible refine k_maxI ?_ | with_reducible refine k_minI ?_ | with_reducible refine k_lenS ?_
      | ((with_reducible refine k_mulI ?e ?_); (case e => omega)) | ((with_reducible refine k_divI ?e ?e2 ?_); (case e => omega); (case e2 => omega)) | ((with_reducible refine k_modI ?e ?_); (case e => omega)) | ((with_reducible refine k_powI ?e ?_); (case e => decide))
      | ((with_reducible refine k_lst ?e ?_); (case e => first | decide | (simp; done) | (simp; omega))) | ((with_reducible refine k_tupD ?e ?_); (case e => first | decide | (simp; done)))
      | ((with_reducible refine' k_lenL ?e ?_); (case e => assumption)) | ((with_reducible refine' k_ixL ?e ?e2 ?_); (case e => assumption); (case e2 => first | assumption | rfl)) | ((with_reducible refine' k_ixT ?e2 ?_); (case e2 => first | assumption | rfl)) | ((with_reducible refine' k_itR ?e ?_); (case e => assumption)))
    refine k_slS (by decide) ?_
    have la := s1.lt
    have l2 := m2.len
    have l3 := (m2.snoc.trans m3).len
    have eN : LS g4 g3.length (ys.take (2 + many)) := by
      unfold LS
      rw [m4.lst lst_new (by omega), svs, svs, List.map_take]
    obtain ⟨ndn, wl, okn⟩ := names_ok (m := 2 + many) (r := wn) (by omega) pm'
    have ly : ys.length = 10 := pm'.length_eq
    have lt1 : (ys.take (2 + many)).length = 2 + many := by rw [List.length_take]; omega
    have lyn : ∀ y ∈ ys, y.length ≤ 3 := fun y hy => (by decide : ∀ y ∈ baseL, y.length ≤ 3) y (pm'.mem_iff.mp hy)
    repeat (first
      | with_reducible refine k_seq ?_ | ((with_reducible refine k_then_nx ?_); try dsimp only [put]) | with_reducible refine k_e2 ?_ | ((with_reducible refine' k_var ?e ?_); (case e => rfl)) | with_reducible refine k_const ?_
      | with_reducible refine k_set ?_ | with_reducible refine k_if ?_ | with_reducible refine k_ret ?_ | with_reducible refine k_eL ?_ | with_reducible refine k_aCons ?_ | with_reducible refine k_aNil ?_ | with_reducible refine k_bT ?_ | with_reducible refine k_onB ?_
      | with_reducible refine k_call1 ?_ | with_reducible refine k_call2 ?_ | with_reducible refine k_call3 ?_ | with_reducible refine k_expr ?_ | with_reducible refine k_for ?_ | with_reducible refine k_meth ?_ | with_reducible refine k_sub ?_ | with_reducible refine k_par ?_ | with_reducible refine k_tup ?_
      | with_reducible refine k_iAny ?_ | with_reducible refine k_iRng1 ?_ | with_reducible refine k_iRng2 ?_ | with_reducible refine k_iEnm ?_ | with_reducible refine k_then_rt ?_ | with_reducible refine k_then_bk ?_ | with_reducible refine k_then_ct ?_ | with_reducible refine k_skip ?_ | with_reducible refine k_break ?_ | with_reducible refine k_cont ?_ | with_reducible refine k_retN ?_
      | with_reducible refine k_e1 ?_ | with_reducible refine k_not ?_ | with_reducible refine k_and ?_ | with_reducible refine k_or ?_ | with_reducible refine k_ifE ?_ | with_reducible refine k_chain ?_ | with_reducible refine k_slice ?_ | with_reducible refine k_oN ?_ | with_reducible refine k_oS ?_ | with_reducible refine k_lc ?_
      | with_reducible refine k_bAnd ?_ | with_reducible refine k_bOr ?_ | with_reducible refine k_bNot ?_ | with_reducible refine k_yes ?_ | with_reducible refine k_onI ?_ | with_reducible refine k_onR ?_ | with_reducible refine k_onL1 ?_ | with_reducible refine k_onL2 ?_ | with_reducible refine k_itT ?_ | with_reducible refine k_itS ?_
      | with_reducible refine k_ends_rt ?_ | with_reducible refine k_ends_nx ?_ | with_reducible refine k_true ?_ | with_reducible refine k_false ?_ | with_reducible refine k_ntrue ?_ | with_reducible refine k_nfalse ?_
      | with_reducible refine k_addI ?_ | with_reducible refine k_subI ?_ | with_reducible refine k_intI ?_ | with_reducible refine k_ltI ?_ | with_reducible refine k_gtI ?_ | with_reducible refine k_leI ?_ | with_reducible refine k_geI ?_ | with_reducible refine k_eqI ?_ | with_reducible refine k_neI ?_ | with_reducible refine k_eqS ?_ | with_reducible refine k_neS ?_ | with_reducible refine k_negI ?_ | with_reducible refine k_notB ?_ | with_reducible refine k_maxI ?_ | with_reducible refine k_minI ?_ | with_reducible refine k_lenS ?_
      | ((with_reducible refine k_mulI ?e ?_); (case e => omega)) | ((with_reducible refine k_divI ?e ?e2 ?_); (case e => omega); (case e2 => omega)) | ((with_reducible refine k_modI ?e ?_); (case e => omega)) | ((with_reducible refine k_powI ?e ?_); (case e => decide))
      | ((with_reducible refine k_lst ?e ?_); (case e => first | decide | (simp; done) | (simp; omega))) | ((with_reducible refine k_tupD ?e ?_); (case e => first | decide | (simp; done)))
      | ((with_reducible refine' k_lenL ?e ?_); (case e => assumption)) | ((with_reducible refine' k_ixL ?e ?e2 ?_); (case e => assumption); (case e2 => first | assumption | rfl)) | ((with_reducible refine' k_ixT ?e2 ?_); (case e2 => first | assumption | rfl)) | ((with_reducible refine' k_itR ?e ?_); (case e => assumption)))
    try refine k_itR eN ?_
    refine st_lcL (fun _ => true) (fun h x v => ∀ z, x = .str z → v = .str (wd wn ++ z)) eN (by simp [svs]; omega) (fun _ _ _ _ r _ => r) ?_ ?_
    · intro x g5 hx x5 lt5
      simp only [svs, List.mem_map] at hx
      obtain ⟨z, hz, rfl⟩ := hx
      refine ⟨_, rfl, k_yes ⟨rfl, Ext.refl, fun _ => ?_⟩⟩
      repeat (first
        | with_reducible refine k_seq ?_ | ((with_reducible refine k_then_nx ?_); try dsimp only [put]) | with_reducible refine k_e2 ?_ | ((with_reducible refine' k_var ?e ?_); (case e => rfl)) | with_reducible refine k_const ?_
        | with_reducible refine k_set ?_ | with_reducible refine k_if ?_ | with_reducible refine k_ret ?_ | with_reducible refine k_eL ?_ | with_reducible refine k_aCons ?_ | with_reducible refine k_aNil ?_ | with_reducible refine k_bT ?_ | with_reducible refine k_onB ?_
        | with_reducible refine k_call1 ?_ | with_reducible refine k_call2 ?_ | with_reducible refine k_call3 ?_ | with_reducible refine k_expr ?_ | with_reducible refine k_for ?_ | with_reducible refine k_meth ?_ | with_reducible refine k_sub ?_ | with_reducible refine k_par ?_ | with_reducible refine k_tup ?_
        | with_reducible refine k_iAny ?_ | with_reducible refine k_iRng1 ?_ | with_reducible refine k_iRng2 ?_ | with_reducible refine k_iEnm ?_ | with_reducible refine k_then_rt ?_ | with_reducible refine k_then_bk ?_ | with_reducible refine k_then_ct ?_ | with_reducible refine k_skip ?_ | with_reducible refine k_break ?_ | with_reducible refine k_cont ?_ | with_reducible refine k_retN ?_
        | with_reducible refine k_e1 ?_ | with_reducible refine k_not ?_ | with_reducible refine k_and ?_ | with_reducible refine k_or ?_ | with_reducible refine k_ifE ?_ | with_reducible refine k_chain ?_ | with_reducible refine k_slice ?_ | with_reducible refine k_oN ?_ | with_reducible refine k_oS ?_ | with_reducible refine k_lc ?_
        | with_reducible refine k_bAnd ?_ | with_reducible refine k_bOr ?_ | with_reducible refine k_bNot ?_ | with_reducible refine k_yes ?_ | with_reducible refine k_onI ?_ | with_reducible refine k_onR ?_ | with_reducible refine k_onL1 ?_ | with_reducible refine k_onL2 ?_ | with_reducible refine k_itT ?_ | with_reducible refine k_itS ?_
        | with_reducible refine k_ends_rt ?_ | with_reducible refine k_ends_nx ?_ | with_reducible refine k_true ?_ | with_reducible refine k_false ?_ | with_reducible refine k_ntrue ?_ | with_reducible refine k_nfalse ?_
        | with_reducible refine k_addI ?_ | with_reducible refine k_subI ?_ | with_reducible refine k_intI ?_ | with_reducible refine k_ltI ?_ | with_reducible refine k_gtI ?_ | with_reducible refine k_leI ?_ | with_reducible refine k_geI ?_ | with_reducible refine k_eqI ?_ | with_reducible refine k_neI ?_ | with_reducible refine k_eqS ?_ | with_reducible refine k_neS ?_ | with_reducible refine k_negI ?_ | with_reducible refine k_notB ?_ | with_reducible refine k_maxI ?_ | with_reducible refine k_minI ?_ | with_reducible refine k_lenS ?_
        | ((with_reducible refine k_mulI ?e ?_); (case e => omega)) | ((with_reducible refine k_divI ?e ?e2 ?_); (case e => omega); (case e2 => omega)) | ((with_reducible refine k_modI ?e ?_); (case e => omega)) | ((with_reducible refine k_powI ?e ?_); (case e => decide))
        | ((with_reducible refine k_lst ?e ?_); (case e => first | decide | (simp; done) | (simp; omega))) | ((with_reducible refine k_tupD ?e ?_); (case e => first | decide | (simp; done)))
        | ((with_reducible refine' k_lenL ?e ?_); (case e => assumption)) | ((with_reducible refine' k_ixL ?e ?e2 ?_); (case e => assumption); (case e2 => first | assumption | rfl)) | ((with_reducible refine' k_ixT ?e2 ?_); (case e2 => first | assumption | rfl)) | ((with_reducible refine' k_itR ?e ?_); (case e => assumption)))
      refine k_addS ?_ ?_
      · have := lyn z (List.mem_of_mem_take hz)
        have e : (cutS "clusters" none (some (wn : Int))).length = (wd wn).length := rfl
        rw [e]
        omega
      · exact ⟨fun z2 e2 => by cases e2; rfl, Ext.refl⟩
    · intro g5 vs x5 lt5 e5 al
      rw [List.filter_eq_self.mpr (fun _ _ => rfl)] at al
      have ev : vs = svs ((ys.take (2 + many)).map (wd wn ++ ·)) := by
        have go : ∀ (l : List Str) (vs : List Pv), All2 (fun (x v : Pv) => ∀ z, x = .str z → v = .str (wd wn ++ z)) (svs l) vs → vs = svs (l.map (wd wn ++ ·)) := by
          intro l
          induction l with
          | nil => intro vs a; cases a; rfl
          | cons y l ih =>
            intro vs a
            cases a with
            | cons a1 a2 =>
              rw [a1 y rfl, ih _ a2]
              rfl
        exact go _ _ al
      subst ev
      obtain ⟨xs, hxs⟩ : ∃ xs, xs = (ys.take (2 + many)).map (wd wn ++ ·) := ⟨_, rfl⟩
      rw [← hxs] at ndn okn e5
      have lx : xs.length = 2 + many := by rw [hxs, List.length_map, lt1]
      have mB := (mA.trans m4).ext x5
      have pn : g4.length ≠ g.length := by have := (mA.trans m4).len; omega
      repeat (first
        | with_reducible refine k_seq ?_ | ((with_reducible refine k_then_nx ?_); try dsimp only [put]) | with_reducible refine k_e2 ?_ | ((with_reducible refine' k_var ?e ?_); (case e => rfl)) | with_reducible refine k_const ?_
        | with_reducible refine k_set ?_ | with_reducible refine k_if ?_ | with_reducible refine k_ret ?_ | with_reducible refine k_eL ?_ | with_reducible refine k_aCons ?_ | with_reducible refine k_aNil ?_ | with_reducible refine k_bT ?_ | with_reducible refine k_onB ?_
        | with_reducible refine k_call1 ?_ | with_reducible refine k_call2 ?_ | with_reducible refine k_call3 ?_ | with_reducible refine k_expr ?_ | with_reducible refine k_for ?_ | with_reducible refine k_meth ?_ | with_reducible refine k_sub ?_ | with_reducible refine k_par ?_ | with_reducible refine k_tup ?_
        | with_reducible refine k_iAny ?_ | with_reducible refine k_iRng1 ?_ | with_reducible refine k_iRng2 ?_ | with_reducible refine k_iEnm ?_ | with_reducible refine k_then_rt ?_ | with_reducible refine k_then_bk ?_ | with_reducible refine k_then_ct ?_ | with_reducible refine k_skip ?_ | with_reducible refine k_break ?_ | with_reducible refine k_cont ?_ | with_reducible refine k_retN ?_
        | with_reducible refine k_e1 ?_ | with_reducible refine k_not ?_ | with_reducible refine k_and ?_ | with_reducible refine k_or ?_ | with_reducible refine k_ifE ?_ | with_reducible refine k_chain ?_ | with_reducible refine k_slice ?_ | with_reducible refine k_oN ?_ | with_reducible refine k_oS ?_ | with_reducible refine k_lc ?_
        | with_reducible refine k_bAnd ?_ | with_reducible refine k_bOr ?_ | with_reducible refine k_bNot ?_ | with_reducible refine k_yes ?_ | with_reducible refine k_onI ?_ | with_reducible refine k_onR ?_ | with_reducible refine k_onL1 ?_ | with_reducible refine k_onL2 ?_ | with_reducible refine k_itT ?_ | with_reducible refine k_itS ?_
        | with_reducible refine k_ends_rt ?_ | with_reducible refine k_ends_nx ?_ | with_reducible refine k_true ?_ | with_reducible refine k_false ?_ | with_reducible refine k_ntrue ?_ | with_reducible refine k_nfalse ?_
        | with_reducible refine k_addI ?_ | with_reducible refine k_subI ?_ | with_reducible refine k_intI ?_ | with_reducible refine k_ltI ?_ | with_reducible refine k_gtI ?_ | with_reducible refine k_leI ?_ | with_reducible refine k_geI ?_ | with_reducible refine k_eqI ?_ | with_reducible refine k_neI ?_ | with_reducible refine k_eqS ?_ | with_reducible refine k_neS ?_ | with_reducible refine k_negI ?_ | with_reducible refine k_notB ?_ | with_reducible refine k_maxI ?_ | with_reducible refine k_minI ?_ | with_reducible refine k_lenS ?_
        | ((with_reducible refine k_mulI ?e ?_); (case e => omega)) | ((with_reducible refine k_divI ?e ?e2 ?_); (case e => omega); (case e2 => omega)) | ((with_reducible refine k_modI ?e ?_); (case e => omega)) | ((with_reducible refine k_powI ?e ?_); (case e => decide))
        | ((with_reducible refine k_lst ?e ?_); (case e => first | decide | (simp; done) | (simp; omega))) | ((with_reducible refine k_tupD ?e ?_); (case e => first | decide | (simp; done)))
        | ((with_reducible refine' k_lenL ?e ?_); (case e => assumption)) | ((with_reducible refine' k_ixL ?e ?e2 ?_); (case e => assumption); (case e2 => first | assumption | rfl)) | ((with_reducible refine' k_ixT ?e2 ?_); (case e2 => first | assumption | rfl)) | ((with_reducible refine' k_itR ?e ?_); (case e => assumption)))
      refine ⟨by omega, by omega, ?_⟩
      refine st_forF 5 (fun j σ h => ∃ o6 o7 o8 o9 o10 o11, σ = [some (.scr ns), some (.int (0 + i)), some (.ref g.length), some (.int ((2 + many : Nat) : Int)), some (.ref g4.length), some (.str (cutS "clusters" none (some (wn : Int)))), o6, o7, o8, o9, o10, o11, none, none] ∧ Mod g.length g5 h)
        ⟨_, _, _, _, _, _, rfl, Mod.refl mB.src⟩ (by omega) fun j σ h hj w => ?_
      obtain ⟨o6, o7, o8, o9, o10, o11, rfl, md⟩ := w
      by_cases hjt : j < 5
      · refine .inr ⟨hjt, .int (0 + j), _, by simp [itAt, hjt], rfl, ?_⟩
        have ep : LS h g4.length xs := md.lst e5 pn
        repeat (first
          | with_reducible refine k_seq ?_ | ((with_reducible refine k_then_nx ?_); try dsimp only [put]) | with_reducible refine k_e2 ?_ | ((with_reducible refine' k_var ?e ?_); (case e => rfl)) | with_reducible refine k_const ?_
          | with_reducible refine k_set ?_ | with_reducible refine k_if ?_ | with_reducible refine k_ret ?_ | with_reducible refine k_eL ?_ | with_reducible refine k_aCons ?_ | with_reducible refine k_aNil ?_ | with_reducible refine k_bT ?_ | with_reducible refine k_onB ?_
          | with_reducible refine k_call1 ?_ | with_reducible refine k_call2 ?_ | with_reducible refine k_call3 ?_ | with_reducible refine k_expr ?_ | with_reducible refine k_for ?_ | with_reducible refine k_meth ?_ | with_reducible refine k_sub ?_ | with_reducible refine k_par ?_ | with_reducible refine k_tup ?_
          | with_reducible refine k_iAny ?_ | with_reducible refine k_iRng1 ?_ | with_reducible refine k_iRng2 ?_ | with_reducible refine k_iEnm ?_ | with_reducible refine k_then_rt ?_ | with_reducible refine k_then_bk ?_ | with_reducible refine k_then_ct ?_ | with_reducible refine k_skip ?_ | with_reducible refine k_break ?_ | with_reducible refine k_cont ?_ | with_reducible refine k_retN ?_
          | with_reducible refine k_e1 ?_ | with_reducible refine k_not ?_ | with_reducible refine k_and ?_ | with_reducible refine k_or ?_ | with_reducible refine k_ifE ?_ | with_reducible refine k_chain ?_ | with_reducible refine k_slice ?_ | with_reducible refine k_oN ?_ | with_reducible refine k_oS ?_ | with_reducible refine k_lc ?_
          | with_reducible refine k_bAnd ?_ | with_reducible refine k_bOr ?_ | with_reducible refine k_bNot ?_ | with_reducible refine k_yes ?_ | with_reducible refine k_onI ?_ | with_reducible refine k_onR ?_ | with_reducible refine k_onL1 ?_ | with_reducible refine k_onL2 ?_ | with_reducible refine k_itT ?_ | with_reducible refine k_itS ?_
          | with_reducible refine k_ends_rt ?_ | with_reducible refine k_ends_nx ?_ | with_reducible refine k_true ?_ | with_reducible refine k_false ?_ | with_reducible refine k_ntrue ?_ | with_reducible refine k_nfalse ?_
          | with_reducible refine k_addI ?_ | with_reducible refine k_subI ?_ | with_reducible refine k_intI ?_ | with_reducible refine k_ltI ?_ | with_reducible refine k_gtI ?_ | with_reducible refine k_leI ?_ | with_reducible refine k_geI ?_ | with_reducible refine k_eqI ?_ | with_reducible refine k_neI ?_ | with_reducible refine k_eqS ?_ | with_reducible refine k_neS ?_ | with_reducible refine k_negI ?_ | with_reducible refine k_notB ?_ | with_reducible refine k_maxI ?_ | with_reducible refine k_minI ?_ | with_reducible refine k_lenS ?_
          | ((with_reducible refine k_mulI ?e ?_); (case e => omega)) | ((with_reducible refine k_divI ?e ?e2 ?_); (case e => omega); (case e2 => omega)) | ((with_reducible refine k_modI ?e ?_); (case e => omega)) | ((with_reducible refine k_powI ?e ?_); (case e => decide))
          | ((with_reducible refine k_lst ?e ?_); (case e => first | decide | (simp; done) | (simp; omega))) | ((with_reducible refine k_tupD ?e ?_); (case e => first | decide | (simp; done)))
          | ((with_reducible refine' k_lenL ?e ?_); (case e => assumption)) | ((with_reducible refine' k_ixL ?e ?e2 ?_); (case e => assumption); (case e2 => first | assumption | rfl)) | ((with_reducible refine' k_ixT ?e2 ?_); (case e2 => first | assumption | rfl)) | ((with_reducible refine' k_itR ?e ?_); (case e => assumption)))
        refine (groups_sat md.src ep pn ndn (by omega)).then fun v h1 z => ?_
        obtain ⟨q, sets, rfl, hq, llf, ls, gd, md1⟩ := z
        have ep1 : LS h1 g4.length xs := md1.lst ep pn
        repeat (first
          | with_reducible refine k_seq ?_ | ((with_reducible refine k_then_nx ?_); try dsimp only [put]) | with_reducible refine k_e2 ?_ | ((with_reducible refine' k_var ?e ?_); (case e => rfl)) | with_reducible refine k_const ?_
          | with_reducible refine k_set ?_ | with_reducible refine k_if ?_ | with_reducible refine k_ret ?_ | with_reducible refine k_eL ?_ | with_reducible refine k_aCons ?_ | with_reducible refine k_aNil ?_ | with_reducible refine k_bT ?_ | with_reducible refine k_onB ?_
          | with_reducible refine k_call1 ?_ | with_reducible refine k_call2 ?_ | with_reducible refine k_call3 ?_ | with_reducible refine k_expr ?_ | with_reducible refine k_for ?_ | with_reducible refine k_meth ?_ | with_reducible refine k_sub ?_ | with_reducible refine k_par ?_ | with_reducible refine k_tup ?_
          | with_reducible refine k_iAny ?_ | with_reducible refine k_iRng1 ?_ | with_reducible refine k_iRng2 ?_ | with_reducible refine k_iEnm ?_ | with_reducible refine k_then_rt ?_ | with_reducible refine k_then_bk ?_ | with_reducible refine k_then_ct ?_ | with_reducible refine k_skip ?_ | with_reducible refine k_break ?_ | with_reducible refine k_cont ?_ | with_reducible refine k_retN ?_
          | with_reducible refine k_e1 ?_ | with_reducible refine k_not ?_ | with_reducible refine k_and ?_ | with_reducible refine k_or ?_ | with_reducible refine k_ifE ?_ | with_reducible refine k_chain ?_ | with_reducible refine k_slice ?_ | with_reducible refine k_oN ?_ | with_reducible refine k_oS ?_ | with_reducible refine k_lc ?_
          | with_reducible refine k_bAnd ?_ | with_reducible refine k_bOr ?_ | with_reducible refine k_bNot ?_ | with_reducible refine k_yes ?_ | with_reducible refine k_onI ?_ | with_reducible refine k_onR ?_ | with_reducible refine k_onL1 ?_ | with_reducible refine k_onL2 ?_ | with_reducible refine k_itT ?_ | with_reducible refine k_itS ?_
          | with_reducible refine k_ends_rt ?_ | with_reducible refine k_ends_nx ?_ | with_reducible refine k_true ?_ | with_reducible refine k_false ?_ | with_reducible refine k_ntrue ?_ | with_reducible refine k_nfalse ?_
          | with_reducible refine k_addI ?_ | with_reducible refine k_subI ?_ | with_reducible refine k_intI ?_ | with_reducible refine k_ltI ?_ | with_reducible refine k_gtI ?_ | with_reducible refine k_leI ?_ | with_reducible refine k_geI ?_ | with_reducible refine k_eqI ?_ | with_reducible refine k_neI ?_ | with_reducible refine k_eqS ?_ | with_reducible refine k_neS ?_ | with_reducible refine k_negI ?_ | with_reducible refine k_notB ?_ | with_reducible refine k_maxI ?_ | with_reducible refine k_minI ?_ | with_reducible refine k_lenS ?_
          | ((with_reducible refine k_mulI ?e ?_); (case e => omega)) | ((with_reducible refine k_divI ?e ?e2 ?_); (case e => omega); (case e2 => omega)) | ((with_reducible refine k_modI ?e ?_); (case e => omega)) | ((with_reducible refine k_powI ?e ?_); (case e => decide))
          | ((with_reducible refine k_lst ?e ?_); (case e => first | decide | (simp; done) | (simp; omega))) | ((with_reducible refine k_tupD ?e ?_); (case e => first | decide | (simp; done)))
          | ((with_reducible refine' k_lenL ?e ?_); (case e => assumption)) | ((with_reducible refine' k_ixL ?e ?e2 ?_); (case e => assumption); (case e2 => first | assumption | rfl)) | ((with_reducible refine' k_ixT ?e2 ?_); (case e2 => first | assumption | rfl)) | ((with_reducible refine' k_itR ?e ?_); (case e => assumption)))
        refine k_repr ep1 llf.ll (shown_fits (by omega) (fun x hx => (okn x hx).2) ls gd) ?_
        repeat (first
          | with_reducible refine k_seq ?_ | ((with_reducible refine k_then_nx ?_); try dsimp only [put]) | with_reducible refine k_e2 ?_ | ((with_reducible refine' k_var ?e ?_); (case e => rfl)) | with_reducible refine k_const ?_
          | with_reducible refine k_set ?_ | with_reducible refine k_if ?_ | with_reducible refine k_ret ?_ | with_reducible refine k_eL ?_ | with_reducible refine k_aCons ?_ | with_reducible refine k_aNil ?_ | with_reducible refine k_bT ?_ | with_reducible refine k_onB ?_
          | with_reducible refine k_call1 ?_ | with_reducible refine k_call2 ?_ | with_reducible refine k_call3 ?_ | with_reducible refine k_expr ?_ | with_reducible refine k_for ?_ | with_reducible refine k_meth ?_ | with_reducible refine k_sub ?_ | with_reducible refine k_par ?_ | with_reducible refine k_tup ?_
          | with_reducible refine k_iAny ?_ | with_reducible refine k_iRng1 ?_ | with_reducible refine k_iRng2 ?_ | with_reducible refine k_iEnm ?_ | with_reducible refine k_then_rt ?_ | with_reducible refine k_then_bk ?_ | with_reducible refine k_then_ct ?_ | with_reducible refine k_skip ?_ | with_reducible refine k_break ?_ | with_reducible refine k_cont ?_ | with_reducible refine k_retN ?_
          | with_reducible refine k_e1 ?_ | with_reducible refine k_not ?_ | with_reducible refine k_and ?_ | with_reducible refine k_or ?_ | with_reducible refine k_ifE ?_ | with_reducible refine k_chain ?_ | with_reducible refine k_slice ?_ | with_reducible refine k_oN ?_ | with_reducible refine k_oS ?_ | with_reducible refine k_lc ?_
          | with_reducible refine k_bAnd ?_ | with_reducible refine k_bOr ?_ | with_reducible refine k_bNot ?_ | with_reducible refine k_yes ?_ | with_reducible refine k_onI ?_ | with_reducible refine k_onR ?_ | with_reducible refine k_onL1 ?_ | with_reducible refine k_onL2 ?_ | with_reducible refine k_itT ?_ | with_reducible refine k_itS ?_
          | with_reducible refine k_ends_rt ?_ | with_reducible refine k_ends_nx ?_ | with_reducible refine k_true ?_ | with_reducible refine k_false ?_ | with_reducible refine k_ntrue ?_ | with_reducible refine k_nfalse ?_
          | with_reducible refine k_addI ?_ | with_reducible refine k_subI ?_ | with_reducible refine k_intI ?_ | with_reducible refine k_ltI ?_ | with_reducible refine k_gtI ?_ | with_reducible refine k_leI ?_ | with_reducible refine k_geI ?_ | with_reducible refine k_eqI ?_ | with_reducible refine k_neI ?_ | with_reducible refine k_eqS ?_ | with_reducible refine k_neS ?_ | with_reducible refine k_negI ?_ | with_reducible refine k_notB ?_ | with_reducible refine k_maxI ?_ | with_reducible refine k_minI ?_ | with_reducible refine k_lenS ?_
          | ((with_reducible refine k_mulI ?e ?_); (case e => omega)) | ((with_reducible refine k_divI ?e ?e2 ?_); (case e => omega); (case e2 => omega)) | ((with_reducible refine k_modI ?e ?_); (case e => omega)) | ((with_reducible refine k_powI ?e ?_); (case e => decide))
          | ((with_reducible refine k_lst ?e ?_); (case e => first | decide | (simp; done) | (simp; omega))) | ((with_reducible refine k_tupD ?e ?_); (case e => first | decide | (simp; done)))
          | ((with_reducible refine' k_lenL ?e ?_); (case e => assumption)) | ((with_reducible refine' k_ixL ?e ?e2 ?_); (case e => assumption); (case e2 => first | assumption | rfl)) | ((with_reducible refine' k_ixT ?e2 ?_); (case e2 => first | assumption | rfl)) | ((with_reducible refine' k_itR ?e ?_); (case e => assumption)))
        refine (law_doubt_sat ep1 llf.ll (by omega) (by omega)).then fun due h2 z => ?_
        obtain ⟨td, x2⟩ := z
        repeat (first
          | with_reducible refine k_seq ?_ | ((with_reducible refine k_then_nx ?_); try dsimp only [put]) | with_reducible refine k_e2 ?_ | ((with_reducible refine' k_var ?e ?_); (case e => rfl)) | with_reducible refine k_const ?_
          | with_reducible refine k_set ?_ | with_reducible refine k_if ?_ | with_reducible refine k_ret ?_ | with_reducible refine k_eL ?_ | with_reducible refine k_aCons ?_ | with_reducible refine k_aNil ?_ | with_reducible refine k_bT ?_ | with_reducible refine k_onB ?_
          | with_reducible refine k_call1 ?_ | with_reducible refine k_call2 ?_ | with_reducible refine k_call3 ?_ | with_reducible refine k_expr ?_ | with_reducible refine k_for ?_ | with_reducible refine k_meth ?_ | with_reducible refine k_sub ?_ | with_reducible refine k_par ?_ | with_reducible refine k_tup ?_
          | with_reducible refine k_iAny ?_ | with_reducible refine k_iRng1 ?_ | with_reducible refine k_iRng2 ?_ | with_reducible refine k_iEnm ?_ | with_reducible refine k_then_rt ?_ | with_reducible refine k_then_bk ?_ | with_reducible refine k_then_ct ?_ | with_reducible refine k_skip ?_ | with_reducible refine k_break ?_ | with_reducible refine k_cont ?_ | with_reducible refine k_retN ?_
          | with_reducible refine k_e1 ?_ | with_reducible refine k_not ?_ | with_reducible refine k_and ?_ | with_reducible refine k_or ?_ | with_reducible refine k_ifE ?_ | with_reducible refine k_chain ?_ | with_reducible refine k_slice ?_ | with_reducible refine k_oN ?_ | with_reducible refine k_oS ?_ | with_reducible refine k_lc ?_
          | with_reducible refine k_bAnd ?_ | with_reducible refine k_bOr ?_ | with_reducible refine k_bNot ?_ | with_reducible refine k_yes ?_ | with_reducible refine k_onI ?_ | with_reducible refine k_onR ?_ | with_reducible refine k_onL1 ?_ | with_reducible refine k_onL2 ?_ | with_reducible refine k_itT ?_ | with_reducible refine k_itS ?_
          | with_reducible refine k_ends_rt ?_ | with_reducible refine k_ends_nx ?_ | with_reducible refine k_true ?_ | with_reducible refine k_false ?_ | with_reducible refine k_ntrue ?_ | with_reducible refine k_nfalse ?_
          | with_reducible refine k_addI ?_ | with_reducible refine k_subI ?_ | with_reducible refine k_intI ?_ | with_reducible refine k_ltI ?_ | with_reducible refine k_gtI ?_ | with_reducible refine k_leI ?_ | with_reducible refine k_geI ?_ | with_reducible refine k_eqI ?_ | with_reducible refine k_neI ?_ | with_reducible refine k_eqS ?_ | with_reducible refine k_neS ?_ | with_reducible refine k_negI ?_ | with_reducible refine k_notB ?_ | with_reducible refine k_maxI ?_ | with_reducible refine k_minI ?_ | with_reducible refine k_lenS ?_
          | ((with_reducible refine k_mulI ?e ?_); (case e => omega)) | ((with_reducible refine k_divI ?e ?e2 ?_); (case e => omega); (case e2 => omega)) | ((with_reducible refine k_modI ?e ?_); (case e => omega)) | ((with_reducible refine k_powI ?e ?_); (case e => decide))
          | ((with_reducible refine k_lst ?e ?_); (case e => first | decide | (simp; done) | (simp; omega))) | ((with_reducible refine k_tupD ?e ?_); (case e => first | decide | (simp; done)))
          | ((with_reducible refine' k_lenL ?e ?_); (case e => assumption)) | ((with_reducible refine' k_ixL ?e ?e2 ?_); (case e => assumption); (case e2 => first | assumption | rfl)) | ((with_reducible refine' k_ixT ?e2 ?_); (case e2 => first | assumption | rfl)) | ((with_reducible refine' k_itR ?e ?_); (case e => assumption)))
        refine (in_doubt_sat (ep1.ext x2) (llf.ll.ext x2) (fun x hx => (okn x hx).1) ndn (by omega) (by omega) (by omega) gd).then fun told h3 z => ?_
        obtain ⟨tt, x3⟩ := z
        repeat (first
          | with_reducible refine k_seq ?_ | ((with_reducible refine k_then_nx ?_); try dsimp only [put]) | with_reducible refine k_e2 ?_ | ((with_reducible refine' k_var ?e ?_); (case e => rfl)) | with_reducible refine k_const ?_
          | with_reducible refine k_set ?_ | with_reducible refine k_if ?_ | with_reducible refine k_ret ?_ | with_reducible refine k_eL ?_ | with_reducible refine k_aCons ?_ | with_reducible refine k_aNil ?_ | with_reducible refine k_bT ?_ | with_reducible refine k_onB ?_
          | with_reducible refine k_call1 ?_ | with_reducible refine k_call2 ?_ | with_reducible refine k_call3 ?_ | with_reducible refine k_expr ?_ | with_reducible refine k_for ?_ | with_reducible refine k_meth ?_ | with_reducible refine k_sub ?_ | with_reducible refine k_par ?_ | with_reducible refine k_tup ?_
          | with_reducible refine k_iAny ?_ | with_reducible refine k_iRng1 ?_ | with_reducible refine k_iRng2 ?_ | with_reducible refine k_iEnm ?_ | with_reducible refine k_then_rt ?_ | with_reducible refine k_then_bk ?_ | with_reducible refine k_then_ct ?_ | with_reducible refine k_skip ?_ | with_reducible refine k_break ?_ | with_reducible refine k_cont ?_ | with_reducible refine k_retN ?_
          | with_reducible refine k_e1 ?_ | with_reducible refine k_not ?_ | with_reducible refine k_and ?_ | with_reducible refine k_or ?_ | with_reducible refine k_ifE ?_ | with_reducible refine k_chain ?_ | with_reducible refine k_slice ?_ | with_reducible refine k_oN ?_ | with_reducible refine k_oS ?_ | with_reducible refine k_lc ?_
          | with_reducible refine k_bAnd ?_ | with_reducible refine k_bOr ?_ | with_reducible refine k_bNot ?_ | with_reducible refine k_yes ?_ | with_reducible refine k_onI ?_ | with_reducible refine k_onR ?_ | with_reducible refine k_onL1 ?_ | with_reducible refine k_onL2 ?_ | with_reducible refine k_itT ?_ | with_reducible refine k_itS ?_
          | with_reducible refine k_ends_rt ?_ | with_reducible refine k_ends_nx ?_ | with_reducible refine k_true ?_ | with_reducible refine k_false ?_ | with_reducible refine k_ntrue ?_ | with_reducible refine k_nfalse ?_
          | with_reducible refine k_addI ?_ | with_reducible refine k_subI ?_ | with_reducible refine k_intI ?_ | with_reducible refine k_ltI ?_ | with_reducible refine k_gtI ?_ | with_reducible refine k_leI ?_ | with_reducible refine k_geI ?_ | with_reducible refine k_eqI ?_ | with_reducible refine k_neI ?_ | with_reducible refine k_eqS ?_ | with_reducible refine k_neS ?_ | with_reducible refine k_negI ?_ | with_reducible refine k_notB ?_ | with_reducible refine k_maxI ?_ | with_reducible refine k_minI ?_ | with_reducible refine k_lenS ?_
          | ((with_reducible refine k_mulI ?e ?_); (case e => omega)) | ((with_reducible refine k_divI ?e ?e2 ?_); (case e => omega); (case e2 => omega)) | ((with_reducible refine k_modI ?e ?_); (case e => omega)) | ((with_reducible refine k_powI ?e ?_); (case e => decide))
          | ((with_reducible refine k_lst ?e ?_); (case e => first | decide | (simp; done) | (simp; omega))) | ((with_reducible refine k_tupD ?e ?_); (case e => first | decide | (simp; done)))
          | ((with_reducible refine' k_lenL ?e ?_); (case e => assumption)) | ((with_reducible refine' k_ixL ?e ?e2 ?_); (case e => assumption); (case e2 => first | assumption | rfl)) | ((with_reducible refine' k_ixT ?e2 ?_); (case e2 => first | assumption | rfl)) | ((with_reducible refine' k_itR ?e ?_); (case e => assumption)))
        refine k_neTold tt (td.ext x3) ?_
        repeat (first
          | with_reducible refine k_seq ?_ | ((with_reducible refine k_then_nx ?_); try dsimp only [put]) | with_reducible refine k_e2 ?_ | ((with_reducible refine' k_var ?e ?_); (case e => rfl)) | with_reducible refine k_const ?_
          | with_reducible refine k_set ?_ | with_reducible refine k_if ?_ | with_reducible refine k_ret ?_ | with_reducible refine k_eL ?_ | with_reducible refine k_aCons ?_ | with_reducible refine k_aNil ?_ | with_reducible refine k_bT ?_ | with_reducible refine k_onB ?_
          | with_reducible refine k_call1 ?_ | with_reducible refine k_call2 ?_ | with_reducible refine k_call3 ?_ | with_reducible refine k_expr ?_ | with_reducible refine k_for ?_ | with_reducible refine k_meth ?_ | with_reducible refine k_sub ?_ | with_reducible refine k_par ?_ | with_reducible refine k_tup ?_
          | with_reducible refine k_iAny ?_ | with_reducible refine k_iRng1 ?_ | with_reducible refine k_iRng2 ?_ | with_reducible refine k_iEnm ?_ | with_reducible refine k_then_rt ?_ | with_reducible refine k_then_bk ?_ | with_reducible refine k_then_ct ?_ | with_reducible refine k_skip ?_ | with_reducible refine k_break ?_ | with_reducible refine k_cont ?_ | with_reducible refine k_retN ?_
          | with_reducible refine k_e1 ?_ | with_reducible refine k_not ?_ | with_reducible refine k_and ?_ | with_reducible refine k_or ?_ | with_reducible refine k_ifE ?_ | with_reducible refine k_chain ?_ | with_reducible refine k_slice ?_ | with_reducible refine k_oN ?_ | with_reducible refine k_oS ?_ | with_reducible refine k_lc ?_
          | with_reducible refine k_bAnd ?_ | with_reducible refine k_bOr ?_ | with_reducible refine k_bNot ?_ | with_reducible refine k_yes ?_ | with_reducible refine k_onI ?_ | with_reducible refine k_onR ?_ | with_reducible refine k_onL1 ?_ | with_reducible refine k_onL2 ?_ | with_reducible refine k_itT ?_ | with_reducible refine k_itS ?_
          | with_reducible refine k_ends_rt ?_ | with_reducible refine k_ends_nx ?_ | with_reducible refine k_true ?_ | with_reducible refine k_false ?_ | with_reducible refine k_ntrue ?_ | with_reducible refine k_nfalse ?_
          | with_reducible refine k_addI ?_ | with_reducible refine k_subI ?_ | with_reducible refine k_intI ?_ | with_reducible refine k_ltI ?_ | with_reducible refine k_gtI ?_ | with_reducible refine k_leI ?_ | with_reducible refine k_geI ?_ | with_reducible refine k_eqI ?_ | with_reducible refine k_neI ?_ | with_reducible refine k_eqS ?_ | with_reducible refine k_neS ?_ | with_reducible refine k_negI ?_ | with_reducible refine k_notB ?_ | with_reducible refine k_maxI ?_ | with_reducible refine k_minI ?_ | with_reducible refine k_lenS ?_
          | ((with_reducible refine k_mulI ?e ?_); (case e => omega)) | ((with_reducible refine k_divI ?e ?e2 ?_); (case e => omega); (case e2 => omega)) | ((with_reducible refine k_modI ?e ?_); (case e => omega)) | ((with_reducible refine k_powI ?e ?_); (case e => decide))
          | ((with_reducible refine k_lst ?e ?_); (case e => first | decide | (simp; done) | (simp; omega))) | ((with_reducible refine k_tupD ?e ?_); (case e => first | decide | (simp; done)))
          | ((with_reducible refine' k_lenL ?e ?_); (case e => assumption)) | ((with_reducible refine' k_ixL ?e ?e2 ?_); (case e => assumption); (case e2 => first | assumption | rfl)) | ((with_reducible refine' k_ixT ?e2 ?_); (case e2 => first | assumption | rfl)) | ((with_reducible refine' k_itR ?e ?_); (case e => assumption)))
        have fin : ∀ (h4 : Hh) (c10 : Option Pv), Ext h2 h4 → Sat (restS [some (.scr ns), some (.int (0 + i)), some (.ref g.length), some (.int ((2 + many : Nat) : Int)), some (.ref g4.length), some (.str (cutS "clusters" none (some (wn : Int)))), some (.int (0 + j)), some (.ref q), some (.str (dT xs sets).shown), some due, c10, o11, none, none] h4)
            (fun f h5 => ∃ o, f = .nx [some (.scr ns), some (.int (0 + i)), some (.ref g.length), some (.int ((2 + many : Nat) : Int)), some (.ref g4.length), some (.str (cutS "clusters" none (some (wn : Int)))), some (.int (0 + j)), some (.ref q), some (.str (dT xs sets).shown), some due, c10, o, none, none] ∧ Mod g.length g5 h5) NoX := by
          intro h4 c10 x4
          refine (rest_sat (b := h1.length) ((ep1.ext x2).ext x4) ((llf.ll.ext x2).ext x4) (td.ext x4) okn ndn (by omega) (by omega) ls gd).mono (fun f h5 z => ?_) fun _ _ _ e => e
          obtain ⟨o, e, x5⟩ := z
          exact ⟨o, e, ((md.trans md1).ext x2).ext (x4.trans x5)⟩
        cases hd : doubtF (ssort xs) sets with
        | none =>
          rw [hd] at tt
          cases (show told = _ from tt)
          refine k_isNotNon0 ?_
          refine k_onB (k_false (k_skip (k_then_nx ?_)))
          refine (fin h3 _ x3).mono (fun f h5 z => ?_) fun _ _ _ e => e
          obtain ⟨o, rfl, m5⟩ := z
          exact ⟨_, _, _, _, _, _, rfl, m5⟩
        | some tr =>
          have l3' := cmb3_len hd
          rw [hd] at tt
          obtain ⟨t, rfl, ht, et⟩ := tt
          refine k_isNotNon (by simp) ?_
          refine k_onB (k_true (k_expr (k_meth (k_var rfl ⟨k_isL et, k_aCons (k_const (k_aNil ?_))⟩))))
          refine k_append et (by simp [svs]; omega) ?_
          refine k_then_nx ?_
          refine (fin (h3.set t (.lst (svs tr ++ [.str "a"]))) _ (x3.put ht)).mono (fun f h5 z => ?_) fun _ _ _ e => e
          obtain ⟨o, rfl, m5⟩ := z
          exact ⟨_, _, _, _, _, _, rfl, m5⟩
      · have : j = 5 := by omega
        subst this
        refine .inl ⟨rfl, by simp [itAt], ?_⟩
        exact ⟨_, _, _, _, _, _, _, _, _, _, _, rfl⟩
  · have : i = n := by omega
    subst this
    refine .inl ⟨rfl, by simp [itAt], ?_⟩
    repeat (first
      | with_reducible refine k_seq ?_ | ((with_reducible refine k_then_nx ?_); try dsimp only [put]) | with_reducible refine k_e2 ?_ | ((with_reducible refine' k_var ?e ?_); (case e => rfl)) | with_reducible refine k_const ?_
      | with_reducible refine k_set ?_ | with_reducible refine k_if ?_ | with_reducible refine k_ret ?_ | with_reducible refine k_eL ?_ | with_reducible refine k_aCons ?_ | with_reducible refine k_aNil ?_ | with_reducible refine k_bT ?_ | with_reducible refine k_onB ?_
      | with_reducible refine k_call1 ?_ | with_reducible refine k_call2 ?_ | with_reducible refine k_call3 ?_ | with_reducible refine k_expr ?_ | with_reducible refine k_for ?_ | with_reducible refine k_meth ?_ | with_reducible refine k_sub ?_ | with_reducible refine k_par ?_ | with_reducible refine k_tup ?_
      | with_reducible refine k_iAny ?_ | with_reducible refine k_iRng1 ?_ | with_reducible refine k_iRng2 ?_ | with_reducible refine k_iEnm ?_ | with_reducible refine k_then_rt ?_ | with_reducible refine k_then_bk ?_ | with_reducible refine k_then_ct ?_ | with_reducible refine k_skip ?_ | with_reducible refine k_break ?_ | with_reducible refine k_cont ?_ | with_reducible refine k_retN ?_
      | with_reducible refine k_e1 ?_ | with_reducible refine k_not ?_ | with_reducible refine k_and ?_ | with_reducible refine k_or ?_ | with_reducible refine k_ifE ?_ | with_reducible refine k_chain ?_ | with_reducible refine k_slice ?_ | with_reducible refine k_oN ?_ | with_reducible refine k_oS ?_ | with_reducible refine k_lc ?_
      | with_reducible refine k_bAnd ?_ | with_reducible refine k_bOr ?_ | with_reducible refine k_bNot ?_ | with_reducible refine k_yes ?_ | with_reducible refine k_onI ?_ | with_reducible refine k_onR ?_ | with_reducible refine k_onL1 ?_ | with_reducible refine k_onL2 ?_ | with_reducible refine k_itT ?_ | with_reducible refine k_itS ?_
      | with_reducible refine k_ends_rt ?_ | with_reducible refine k_ends_nx ?_ | with_reducible refine k_true ?_ | with_reducible refine k_false ?_ | with_reducible refine k_ntrue ?_ | with_reducible refine k_nfalse ?_
      | with_reducible refine k_addI ?_ | with_reducible refine k_subI ?_ | with_reducible refine k_intI ?_ | with_reducible refine k_ltI ?_ | with_reducible refine k_gtI ?_ | with_reducible refine k_leI ?_ | with_reducible refine k_geI ?_ | with_reducible refine k_eqI ?_ | with_reducible refine k_neI ?_ | with_reducible refine k_eqS ?_ | with_reducible refine k_neS ?_ | with_reducible refine k_negI ?_ | with_reducible refine k_notB ?_ | with_reducible refine k_maxI ?_ | with_reducible refine k_minI ?_ | with_reducible refine k_lenS ?_
      | ((with_reducible refine k_mulI ?e ?_); (case e => omega)) | ((with_reducible refine k_divI ?e ?e2 ?_); (case e => omega); (case e2 => omega)) | ((with_reducible refine k_modI ?e ?_); (case e => omega)) | ((with_reducible refine k_powI ?e ?_); (case e => decide))
      | ((with_reducible refine k_lst ?e ?_); (case e => first | decide | (simp; done) | (simp; omega))) | ((with_reducible refine k_tupD ?e ?_); (case e => first | decide | (simp; done)))
      | ((with_reducible refine' k_lenL ?e ?_); (case e => assumption)) | ((with_reducible refine' k_ixL ?e ?e2 ?_); (case e => assumption); (case e2 => first | assumption | rfl)) | ((with_reducible refine' k_ixT ?e2 ?_); (case e2 => first | assumption | rfl)) | ((with_reducible refine' k_itR ?e ?_); (case e => assumption)))
    rfl
end Pg
namespace Pg
open Mi
theorem law38 : ∀ ns : List Int, ns.length ≤ 63 → ∃ h', d_law [.scr ns] [] = .ok (.bl true) h' := fun ns _ => by
  have s := law_sat ns
  cases q : d_law [.scr ns] [] with
  | bad => rw [q] at s; exact s.elim
  | ex c fs h => rw [q] at s; exact s.elim
  | ok v h =>
    rw [q] at s
    cases (show v = _ from s)
    exact ⟨h, rfl⟩
end Pg
open PySem PySem.W PySem.Calls PyProof.Rows
theorem PySem.Challenge.cw_busyleaves_k38_triples_in_doubt_holds : PySem.Challenge.rw_busyleaves_k38_triples_in_doubt.Holds := by
  w_on; o_law
  refine HandSHeadRun.head_any (r := Pg.R) (q := view Pg.R.prog [23]) (H := Pg.hk) (ob := Pg.ob) (M := 4000) (loose := Pg.loose) (d := HandSHeadRun.topDef Pg.R.prog 23) (kwd := []) Pg.ob_eq
    (by kernel_rfl) (fun s => by kernel_rfl) Pg.run (by kernel_rfl) (by kernel_rfl) (by kernel_rfl) (by rfl) (by first | assumption | decide +kernel) (by decide +kernel) ⟨rfl, rfl, rfl, rfl, rfl, by decide +kernel⟩ ?hw ?hc
  case hw => w_witness2
  case hc =>
    refine Mi.walk_top (l := PySem.Challenge.rw_busyleaves_k38_triples_in_doubt) (n := 63) (g := Pg.d_law) (x := "_law_script") rfl (by decide) (by kernel_rfl) ?F Pg.law38
    intro w mg fa h Y G hmg0
    obtain ⟨K, KX, c⟩ := Y
    have hmg : mg ("law" : PySem.Str) = some (.ref fa) := by
      have e : (HandSHeadRun.topDef Pg.R.prog 23).name = ("law" : PySem.Str) := by kernel_rfl
      rw [← e]
      exact hmg0
    obtain ⟨T, e, hb⟩ := Pg.mkT KX G c
    have e2 := hmg.symm.trans T.g_law
    cases e2
    exact ⟨Pg.gm K, T.fd_law, KX, hb, fun base _ _ => Pg.ok_law T⟩
