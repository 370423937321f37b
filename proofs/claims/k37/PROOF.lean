import PyProof.Rows.All
import HandS.ForMost
import HandS.TupAny
import HandS.IsInst
import HandS.Flow
import HandS.Deep
import HandS.Defaults
import Wide.All
import OpenK.AllK
import Wide.FinOn
import PyProof.EnumIter
import PyProof.EnumMake
import PyProof.EnumFor
import PySem.Challenge.RW_lendback_k37_nearer_places_conflict_more
set_option Elab.async false
set_option linter.all false
set_option maxRecDepth 100000
namespace Rf
open PySem PySem.Spec PyProof.Rows L2

/-! ### data -/
abbrev Sg := List Nat
def S (s : Sg) : Str := ⟨s.toArray⟩
theorem S_inj {s t : Sg} (h : S s = S t) : s = t := by
  have := congrArg Str.cps h
  simpa [S] using this
theorem S_cps (s : Sg) : (S s).cps.toList = s := by simp [S]
theorem S_len (s : Sg) : (S s).length = s.length := by simp [S, Str.length]
theorem S_of (z : Str) : S z.cps.toList = z := by simp [S]

inductive D where
  | non | bl (b : Bool) | int (i : Int) | str (s : Sg) | tup (ds : List D) | fro (ds : List D) | ref (n : Nat)

abbrev DK := Sum Int Sg
inductive Ob where
  | lst (ds : List D)
  | dic (kvs : List (DK × D))
  | ins (c : Nat) (fs : List (Sg × D))
abbrev AH := List Ob
abbrev Env' := List (Option D)

/-! ### how data stand in the abstract heap -/
def SqF (K : PySem.W.Frag) (H : Hp) (a : Addr) (xs : List V) : Prop :=
  (∃ o, H a = some (.frz o (.lst xs))) ∨
    ∃ (o : Obj) (its : Array Value) (n : Nat), K.lookup a = some o ∧ o.cls = .type "list" ∧ o.dict = none ∧ o.data = .seq its n ∧ its.size ≤ sizeLine ∧ Vals xs its.toList
theorem SqF.sq {K : PySem.W.Frag} {H : Hp} {a : Addr} {xs : List V} (h : SqF K H a xs) : SqL K H a xs := by
  rcases h with h | h
  · exact .inl (.inr h)
  · exact .inr h

structure Keep (H H' : Hp) : Prop where
  tup : ∀ a xs, H a = some (.tup xs) → H' a = some (.tup xs)
  frz : ∀ a o u, H a = some (.frz o u) → (∀ kvs, u ≠ .dK kvs) → (∀ kvs, u ≠ .dT kvs) → H' a = some (.frz o u)
theorem Keep.refl {H : Hp} : Keep H H := ⟨fun _ _ h => h, fun _ _ _ h _ _ => h⟩
theorem Keep.trans {H H1 H2 : Hp} (a : Keep H H1) (b : Keep H1 H2) : Keep H H2 :=
  ⟨fun c xs h => b.tup c xs (a.tup c xs h), fun c o u h n m => b.frz c o u (a.frz c o u h n m) n m⟩
theorem Keep.fresh {H : Hp} {p : Addr} {o : HO} (hp : H p = none) : Keep H (upd H p o) :=
  ⟨fun a xs h => by rw [upd_ne (ne_of_none h hp)]; exact h, fun a _ u h _ _ => by rw [upd_ne (ne_of_none h hp)]; exact h⟩
def MutO : HO → Prop
  | .lst _ => True
  | .dK _ => True
  | .dT _ => True
  | .ins _ _ _ => True
  | _ => False
theorem Keep.write {H : Hp} {p : Addr} {o u : HO} (hp : H p = some u) (hm : MutO u) : Keep H (upd H p o) :=
  ⟨fun a xs h => by
    rw [upd_ne (ne_of h hp (fun e => by subst e; exact hm))]; exact h, fun a _ v h _ _ => by
    rw [upd_ne (ne_of h hp (fun e => by subst e; exact hm))]; exact h⟩

theorem Keep.sqT {K : PySem.W.Frag} {H H' : Hp} (k : Keep H H') {a : Addr} {xs : List V} (h : SqT K H a xs) : SqT K H' a xs := by
  rcases h with (h | ⟨o, h⟩) | h
  · exact .inl (.inl (k.tup _ _ h))
  · exact .inl (.inr ⟨o, k.frz _ _ _ h (fun _ e => by cases e) (fun _ e => by cases e)⟩)
  · exact .inr h
theorem Keep.sqF {K : PySem.W.Frag} {H H' : Hp} (k : Keep H H') {a : Addr} {xs : List V} (h : SqF K H a xs) : SqF K H' a xs := by
  rcases h with ⟨o, h⟩ | h
  · exact .inl ⟨o, k.frz _ _ _ h (fun _ e => by cases e) (fun _ e => by cases e)⟩
  · exact .inr h

section
variable (K : PySem.W.Frag) (ρ : List Addr) (H : Hp)
mutual
def RD : D → V → Prop
  | .non, v => v = .non
  | .bl b, v => v = .bl b
  | .int i, v => v = .int i
  | .str s, v => v = .str (S s)
  | .tup ds, v => ∃ a xs, v = .ref a ∧ SqT K H a xs ∧ RDs ds xs
  | .fro ds, v => ∃ a xs, v = .ref a ∧ SqF K H a xs ∧ RDs ds xs
  | .ref n, v => ∃ a, ρ[n]? = some a ∧ v = .ref a
def RDs : List D → List V → Prop
  | [], xs => xs = []
  | d :: ds, xs => ∃ x r, xs = x :: r ∧ RD d x ∧ RDs ds r
end
end

def Ext (ρ ρ' : List Addr) : Prop := ∃ m, ρ' = ρ ++ m
theorem Ext.refl {ρ : List Addr} : Ext ρ ρ := ⟨[], by simp⟩
theorem Ext.trans {ρ ρ1 ρ2 : List Addr} (a : Ext ρ ρ1) (b : Ext ρ1 ρ2) : Ext ρ ρ2 := by
  obtain ⟨m, rfl⟩ := a
  obtain ⟨n, rfl⟩ := b
  exact ⟨m ++ n, by simp⟩
theorem Ext.get {ρ ρ' : List Addr} (x : Ext ρ ρ') {n : Nat} {a : Addr} (h : ρ[n]? = some a) : ρ'[n]? = some a := by
  obtain ⟨m, rfl⟩ := x
  rw [List.getElem?_append_left (by exact (List.getElem?_eq_some_iff.mp h).1)]
  exact h
theorem Ext.snoc {ρ : List Addr} {p : Addr} : Ext ρ (ρ ++ [p]) := ⟨[p], rfl⟩

section
variable {K : PySem.W.Frag} {ρ ρ' : List Addr} {H H' : Hp}
mutual
theorem RD.mono (x : Ext ρ ρ') (k : Keep H H') : ∀ {d : D} {v : V}, RD K ρ H d v → RD K ρ' H' d v
  | .non, _, h => by rw [RD] at h ⊢; exact h
  | .bl _, _, h => by rw [RD] at h ⊢; exact h
  | .int _, _, h => by rw [RD] at h ⊢; exact h
  | .str _, _, h => by rw [RD] at h ⊢; exact h
  | .tup ds, _, h => by
    rw [RD] at h ⊢
    obtain ⟨a, xs, e, q, r⟩ := h
    exact ⟨a, xs, e, k.sqT q, RDs.mono x k r⟩
  | .fro ds, _, h => by
    rw [RD] at h ⊢
    obtain ⟨a, xs, e, q, r⟩ := h
    exact ⟨a, xs, e, k.sqF q, RDs.mono x k r⟩
  | .ref n, _, h => by
    rw [RD] at h ⊢
    obtain ⟨a, e, q⟩ := h
    exact ⟨a, x.get e, q⟩
theorem RDs.mono (x : Ext ρ ρ') (k : Keep H H') : ∀ {ds : List D} {xs : List V}, RDs K ρ H ds xs → RDs K ρ' H' ds xs
  | [], _, h => by rw [RDs] at h ⊢; exact h
  | d :: ds, _, h => by
    rw [RDs] at h ⊢
    obtain ⟨y, r, e, q, t⟩ := h
    exact ⟨y, r, e, RD.mono x k q, RDs.mono x k t⟩
end
theorem RDs.length : ∀ {ds : List D} {xs : List V}, RDs K ρ H ds xs → xs.length = ds.length
  | [], _, h => by rw [RDs] at h; subst h; rfl
  | d :: ds, _, h => by
    rw [RDs] at h
    obtain ⟨y, r, rfl, q, t⟩ := h
    simp [RDs.length t]
theorem RDs.nil : RDs K ρ H [] [] := by rw [RDs]
theorem RDs.cons {d : D} {ds : List D} {x : V} {xs : List V} (h : RD K ρ H d x) (t : RDs K ρ H ds xs) : RDs K ρ H (d :: ds) (x :: xs) := by
  rw [RDs]; exact ⟨x, xs, rfl, h, t⟩
theorem RDs.get : ∀ {ds : List D} {xs : List V} {i : Nat} {d : D}, RDs K ρ H ds xs → ds[i]? = some d → ∃ x, xs[i]? = some x ∧ RD K ρ H d x
  | [], _, i, d, h, e => by simp at e
  | d0 :: ds, _, i, d, h, e => by
    rw [RDs] at h
    obtain ⟨y, r, rfl, q, t⟩ := h
    cases i with
    | zero =>
      simp at e
      subst e
      exact ⟨y, by simp, q⟩
    | succ i =>
      obtain ⟨x, h1, h2⟩ := RDs.get (i := i) t (by simpa using e)
      exact ⟨x, by simpa using h1, h2⟩
theorem RDs.append : ∀ {ds es : List D} {xs ys : List V}, RDs K ρ H ds xs → RDs K ρ H es ys → RDs K ρ H (ds ++ es) (xs ++ ys)
  | [], _, _, _, h, t => by rw [RDs] at h; subst h; exact t
  | d :: ds, _, _, _, h, t => by
    rw [RDs] at h
    obtain ⟨y, r, rfl, q, t'⟩ := h
    exact RDs.cons q (RDs.append t' t)
theorem RDs.take : ∀ {ds : List D} {xs : List V} (n : Nat), RDs K ρ H ds xs → RDs K ρ H (ds.take n) (xs.take n)
  | _, _, 0, _ => by rw [List.take_zero, List.take_zero]; exact RDs.nil
  | [], _, n + 1, h => by rw [RDs] at h; subst h; exact RDs.nil
  | d :: ds, _, n + 1, h => by
    rw [RDs] at h
    obtain ⟨y, r, rfl, q, t⟩ := h
    exact RDs.cons q (RDs.take n t)
theorem RDs.drop : ∀ {ds : List D} {xs : List V} (n : Nat), RDs K ρ H ds xs → RDs K ρ H (ds.drop n) (xs.drop n)
  | _, _, 0, h => h
  | [], _, n + 1, h => by rw [RDs] at h; subst h; exact RDs.nil
  | d :: ds, _, n + 1, h => by
    rw [RDs] at h
    obtain ⟨y, r, rfl, q, t⟩ := h
    exact RDs.drop n t
theorem RDs.set : ∀ {ds : List D} {xs : List V} (n : Nat) {d : D} {x : V}, RD K ρ H d x → RDs K ρ H ds xs → RDs K ρ H (ds.set n d) (xs.set n x)
  | [], _, n, _, _, _, h => by rw [RDs] at h; subst h; exact RDs.nil
  | d :: ds, _, 0, _, _, hd, h => by
    rw [RDs] at h
    obtain ⟨y, r, rfl, q, t⟩ := h
    exact RDs.cons hd t
  | d :: ds, _, n + 1, _, _, hd, h => by
    rw [RDs] at h
    obtain ⟨y, r, rfl, q, t⟩ := h
    exact RDs.cons q (RDs.set n hd t)
theorem RDs.snoc {ds : List D} {xs : List V} {d : D} {x : V} (h : RDs K ρ H ds xs) (r : RD K ρ H d x) : RDs K ρ H (ds ++ [d]) (xs ++ [x]) := h.append (RDs.cons r RDs.nil)

/-! introductions, eliminations -/
theorem RD.non : RD K ρ H .non .non := by rw [RD]
theorem RD.bl {b : Bool} : RD K ρ H (.bl b) (.bl b) := by rw [RD]
theorem RD.int {i : Int} : RD K ρ H (.int i) (.int i) := by rw [RD]
theorem RD.str {s : Sg} : RD K ρ H (.str s) (.str (S s)) := by rw [RD]
theorem RD.tup {ds : List D} {a : Addr} {xs : List V} (h : SqT K H a xs) (r : RDs K ρ H ds xs) : RD K ρ H (.tup ds) (.ref a) := by rw [RD]; exact ⟨a, xs, rfl, h, r⟩
theorem RD.ref {n : Nat} {a : Addr} (h : ρ[n]? = some a) : RD K ρ H (.ref n) (.ref a) := by rw [RD]; exact ⟨a, h, rfl⟩
theorem RD.non_e {v : V} (h : RD K ρ H .non v) : v = .non := by rw [RD] at h; exact h
theorem RD.bl_e {v : V} {b : Bool} (h : RD K ρ H (.bl b) v) : v = .bl b := by rw [RD] at h; exact h
theorem RD.int_e {v : V} {i : Int} (h : RD K ρ H (.int i) v) : v = .int i := by rw [RD] at h; exact h
theorem RD.str_e {v : V} {s : Sg} (h : RD K ρ H (.str s) v) : v = .str (S s) := by rw [RD] at h; exact h
theorem RD.tup_e {v : V} {ds : List D} (h : RD K ρ H (.tup ds) v) : ∃ a xs, v = .ref a ∧ SqT K H a xs ∧ RDs K ρ H ds xs := by rw [RD] at h; exact h
theorem RD.fro_e {v : V} {ds : List D} (h : RD K ρ H (.fro ds) v) : ∃ a xs, v = .ref a ∧ SqF K H a xs ∧ RDs K ρ H ds xs := by rw [RD] at h; exact h
theorem RD.ref_e {v : V} {n : Nat} (h : RD K ρ H (.ref n) v) : ∃ a, ρ[n]? = some a ∧ v = .ref a := by rw [RD] at h; exact h
end

/-! ### the abstract heap of the interpreter -/
def kD : DK → Key
  | .inl i => .inl i
  | .inr s => .inr (S s)
theorem kD_inj {a b : DK} (h : kD a = kD b) : a = b := by
  cases a <;> cases b <;> simp [kD] at h
  · rw [h]
  · rw [S_inj h]

section
variable (K : PySem.W.Frag) (cls : Nat → Option Addr) (ρ : List Addr) (H : Hp)
abbrev KVs : List (DK × D) → List (Key × V) → Prop := Paired fun p q => kD p.1 = q.1 ∧ RD K ρ H p.2 q.2
abbrev FVs : List (Sg × D) → List (Str × V) → Prop := Paired fun p q => S p.1 = q.1 ∧ RD K ρ H p.2 q.2
def OR (a : Addr) : Ob → Prop
  | .lst ds => ∃ xs, H a = some (.lst xs) ∧ RDs K ρ H ds xs
  | .dic kvs => ∃ ks, H a = some (.dK ks) ∧ KVs K ρ H kvs ks
  | .ins c fs => ∃ C dx gs, cls c = some C ∧ H a = some (.ins C dx gs) ∧ FVs K ρ H fs gs
structure HR (h : AH) : Prop where
  len : h.length = ρ.length
  nd : ρ.Nodup
  ob : ∀ (n : Nat) (o : Ob) (a : Addr), h[n]? = some o → ρ[n]? = some a → OR K cls ρ H a o
structure ER (env : Env') (σ : L2.St) : Prop where
  len : env.length = σ.length
  get : ∀ (i : Nat) (d : D), env[i]? = some (some d) → ∃ v, σ[i]? = some (some v) ∧ RD K ρ H d v
end
theorem Paired.imp' {α β : Type} {F G : α → β → Prop} {l₁ : List α} {l₂ : List β} (h : Paired F l₁ l₂) (f : ∀ a b, F a b → G a b) : Paired G l₁ l₂ := Paired.mapP h f
section
variable {K : PySem.W.Frag} {cls : Nat → Option Addr} {ρ ρ' : List Addr} {H H' : Hp} {h : AH} {env : Env'} {σ : L2.St}
theorem ER.mono (e : ER K ρ H env σ) (x : Ext ρ ρ') (k : Keep H H') : ER K ρ' H' env σ :=
  ⟨e.len, fun i d hi => by
    obtain ⟨v, h1, h2⟩ := e.get i d hi
    exact ⟨v, h1, h2.mono x k⟩⟩
theorem ER.set (e : ER K ρ H env σ) {d : D} {v : V} (i : Nat) (r : RD K ρ H d v) : ER K ρ H (env.set i (some d)) (σ.set i (some v)) := by
  refine ⟨by rw [List.length_set, List.length_set, e.len], fun j d' hj => ?_⟩
  by_cases hij : i = j
  · subst hij
    rw [List.getElem?_set] at hj
    rw [if_pos rfl] at hj
    by_cases hl : i < env.length
    · rw [if_pos hl] at hj
      have : d = d' := by simpa using hj
      subst this
      exact ⟨v, by rw [List.getElem?_set_self (by rw [← e.len]; exact hl)], r⟩
    · rw [if_neg hl] at hj
      cases hj
  · rw [List.getElem?_set_ne hij] at hj
    rw [List.getElem?_set_ne hij]
    exact e.get j d' hj
theorem ER.wipe1 (e : ER K ρ H env σ) (i : Nat) : ER K ρ H (env.set i none) (σ.set i none) := by
  refine ⟨by rw [List.length_set, List.length_set, e.len], fun j d' hj => ?_⟩
  by_cases hij : i = j
  · subst hij
    rw [List.getElem?_set] at hj
    rw [if_pos rfl] at hj
    split at hj <;> simp at hj
  · rw [List.getElem?_set_ne hij] at hj
    rw [List.getElem?_set_ne hij]
    exact e.get j d' hj
theorem OR.some {a : Addr} {o : Ob} (r : OR K cls ρ H a o) : ∃ u, H a = some u ∧ MutO u := by
  cases o with
  | lst ds => obtain ⟨xs, h, _⟩ := r; exact ⟨_, h, trivial⟩
  | dic kvs => obtain ⟨xs, h, _⟩ := r; exact ⟨_, h, trivial⟩
  | ins c fs => obtain ⟨_, _, xs, _, h, _⟩ := r; exact ⟨_, h, trivial⟩
theorem OR.mono {a : Addr} {o : Ob} (r : OR K cls ρ H a o) (x : Ext ρ ρ') (k : Keep H H') (e : H' a = H a) : OR K cls ρ' H' a o := by
  cases o with
  | lst ds => obtain ⟨xs, h, q⟩ := r; exact ⟨xs, e.trans h, q.mono x k⟩
  | dic kvs => obtain ⟨xs, h, q⟩ := r; exact ⟨xs, e.trans h, Paired.mapP q fun _ _ z => ⟨z.1, z.2.mono x k⟩⟩
  | ins c fs => obtain ⟨C, dx, xs, hc, h, q⟩ := r; exact ⟨C, dx, xs, hc, e.trans h, Paired.mapP q fun _ _ z => ⟨z.1, z.2.mono x k⟩⟩
theorem HR.at (r : HR K cls ρ H h) {n : Nat} {o : Ob} (e : h[n]? = some o) : ∃ a, ρ[n]? = some a ∧ OR K cls ρ H a o := by
  have hn : n < ρ.length := by rw [← r.len]; exact (List.getElem?_eq_some_iff.mp e).1
  exact ⟨ρ[n], List.getElem?_eq_getElem hn, r.ob n o _ e (List.getElem?_eq_getElem hn)⟩
theorem HR.known (r : HR K cls ρ H h) {n : Nat} {a : Addr} (e : ρ[n]? = some a) : ∃ u, H a = some u ∧ MutO u := by
  have hn : n < h.length := by rw [r.len]; exact (List.getElem?_eq_some_iff.mp e).1
  exact (r.ob n _ a (List.getElem?_eq_getElem hn) e).some
/-- something else is laid -/
theorem HR.fresh (r : HR K cls ρ H h) {p : Addr} {o : HO} (hp : H p = none) : HR K cls ρ (upd H p o) h := by
  refine ⟨r.len, r.nd, fun n ob a e1 e2 => ?_⟩
  obtain ⟨u, hu, _⟩ := r.known e2
  exact (r.ob n ob a e1 e2).mono Ext.refl (Keep.fresh hp) (upd_ne (ne_of_none hu hp))
/-- a new object of ours -/
theorem HR.alloc (r : HR K cls ρ H h) {p : Addr} {o : HO} {ob : Ob} (hp : H p = none) (new : OR K cls (ρ ++ [p]) (upd H p o) p ob) : HR K cls (ρ ++ [p]) (upd H p o) (h ++ [ob]) := by
  have nin : p ∉ ρ := fun hm => by
    obtain ⟨n, hn⟩ := List.getElem?_of_mem hm
    obtain ⟨u, hu, _⟩ := r.known hn
    rw [hp] at hu; cases hu
  refine ⟨by simp [r.len], ?_, fun n o' a e1 e2 => ?_⟩
  · rw [List.nodup_append]
    refine ⟨r.nd, by simp, fun a ha b hb => ?_⟩
    rw [List.mem_singleton.mp hb]
    intro e
    subst e
    exact nin ha
  · by_cases hn : n < h.length
    · rw [List.getElem?_append_left hn] at e1
      rw [List.getElem?_append_left (by rw [← r.len]; exact hn)] at e2
      obtain ⟨u, hu, _⟩ := r.known e2
      exact (r.ob n o' a e1 e2).mono Ext.snoc (Keep.fresh hp) (upd_ne (ne_of_none hu hp))
    · have hn' : n = h.length := by
        have := (List.getElem?_eq_some_iff.mp e1).1
        simp at this
        omega
      subst hn'
      rw [List.getElem?_append_right (Nat.le_refl _)] at e1
      rw [List.getElem?_append_right (by rw [r.len]; exact Nat.le_refl _)] at e2
      simp at e1
      rw [r.len] at e2
      simp at e2
      subst e1 e2
      exact new
/-- an object of ours is written -/
theorem HR.write (r : HR K cls ρ H h) {n : Nat} {a : Addr} {o : HO} {ob : Ob} (ha : ρ[n]? = some a) (new : OR K cls ρ (upd H a o) a ob) : HR K cls ρ (upd H a o) (h.set n ob) := by
  obtain ⟨u, hu, hm⟩ := r.known ha
  refine ⟨by rw [List.length_set]; exact r.len, r.nd, fun m o' b e1 e2 => ?_⟩
  by_cases hnm : n = m
  · subst hnm
    rw [ha] at e2
    cases e2
    rw [List.getElem?_set] at e1
    rw [if_pos rfl] at e1
    split at e1
    · cases e1; exact new
    · cases e1
  · rw [List.getElem?_set_ne hnm] at e1
    have hab : b ≠ a := fun e => by
      subst e
      obtain ⟨h1, g1⟩ := List.getElem?_eq_some_iff.mp ha
      obtain ⟨h2, g2⟩ := List.getElem?_eq_some_iff.mp e2
      exact hnm ((List.getElem_inj r.nd).mp (g1.trans g2.symm))
    exact (r.ob m o' b e1 e2).mono Ext.refl (Keep.write hu hm) (upd_ne hab)
end
end Rf

namespace Rf
open PySem PySem.Spec PyProof.Rows L2

/-! ### results -/
structure Exn where
  cls : Nat
  fs : List (Sg × D)
inductive Rs (α : Type) where
  | ok (a : α) (h : AH)
  | ex (x : Exn) (h : AH)
  | no
def Rs.bind {α β : Type} (r : Rs α) (f : α → AH → Rs β) : Rs β :=
  match r with
  | .ok a h => f a h
  | .ex x h => .ex x h
  | .no => .no
theorem Rs.bind_ok {α β : Type} {a : α} {h : AH} {f : α → AH → Rs β} : (Rs.ok a h).bind f = f a h := rfl
def ofO {α : Type} (o : Option α) (h : AH) : Rs α :=
  match o with
  | some a => .ok a h
  | none => .no

/-! ### code -/
inductive Bop where | add | sub | mul | fdv | mod | pow
  deriving DecidableEq
inductive Cop where | eq | ne | lt | le | gt | ge | in_ | nin
  deriving DecidableEq
inductive Blt where | len | abs | int | list | tuple | sum | max | max2 | min | min2 | dict
  deriving DecidableEq
inductive Ty where | int | bool | str | tuple | list
  deriving DecidableEq
inductive Mth where | append | extend | pop | index | get1 | get2
  deriving DecidableEq
inductive IK where | seq | rng1 | rng2 | enum | zip
  deriving DecidableEq
inductive Tg where | one (i : Nat) | tup (is : List Nat)

inductive CE where
  | var (i : Nat) | cst (d : D)
  | bin (o : Bop) (a b : CE) | cmp (o : Cop) (a b : CE) | chain (o o' : Cop) (a b c : CE)
  | isN (neg : Bool) (a : CE)
  | neg (a : CE) | not (a : CE) | and (a b : CE) | or (a b : CE) | ite (c a b : CE)
  | tup (as : CE) | lst (as : CE) | dic (as : CE)
  | an | ac (a as : CE)
  | idx (a i : CE) | slc (l : Bool) (h : Bool) (a lo hi : CE)
  | call (f : Nat) (as : CE) | callk (f : Nat) (p : List Nat) (as ks : CE)
  | blt (b : Blt) (as : CE) | isi (t : Ty) (a : CE)
  | mth (m : Mth) (o as : CE)
  | lc (k : IK) (src : CE) (tg : Tg) (own : List Nat) (ifs : Bool) (c e : CE)

inductive CS where
  | skip | seq (a b : CS)
  | set (i : Nat) (e : CE) | setT (is : List Nat) (e : CE) | setIx (o i e : CE)
  | aug (o : Bop) (i : Nat) (e : CE) | augIx (o : Bop) (a i e : CE)
  | ife (c : CE) (a b : CS) | for_ (k : IK) (src : CE) (tg : Tg) (b : CS) | whl (c : CE) (b : CS)
  | ret (e : CE) | retN | expr (e : CE) | brk | cnt | stuck

/-! ### operations on data -/
def lim : Nat := 16777216
def getL (h : AH) (n : Nat) : Option (List D) :=
  match h[n]? with
  | some (.lst ds) => some ds
  | _ => none
def getD' (h : AH) (n : Nat) : Option (List (DK × D)) :=
  match h[n]? with
  | some (.dic kvs) => some kvs
  | _ => none
def mapO {α β : Type} (f : α → Option β) : List α → Option (List β)
  | [] => some []
  | a :: as => match f a with
    | some b => match mapO f as with
      | some bs => some (b :: bs)
      | none => none
    | none => none
/-- data as the library's plain data, down to some depth -/
def toPy (h : AH) : Nat → D → Option PyData
  | 0, _ => none
  | _ + 1, .non => some .none
  | _ + 1, .bl b => some (.bool b)
  | _ + 1, .int i => some (.int i)
  | _ + 1, .str s => some (.str (S s))
  | k + 1, .tup ds => (mapO (toPy h k) ds).map .tuple
  | _ + 1, .fro _ => none
  | k + 1, .ref n => match getL h n with
    | some ds => (mapO (toPy h k) ds).map .list
    | none => none
def deepEq (h : AH) (a b : D) : Option Bool :=
  match toPy h 66 a, toPy h 66 b with
  | some x, some y => if SeqAt.shaped x && SeqAt.shaped y then some (PyData.eqv x y) else none
  | _, _ => none
/-- == -/
def eqD (h : AH) : D → D → Option Bool
  | .int i, .int j => some (decide (i = j))
  | .str s, .str t => some (decide (s = t))
  | .bl a, .bl b => some (decide (a = b))
  | .non, .non => some true
  | .non, .int _ => some false | .int _, .non => some false
  | .non, .bl _ => some false | .bl _, .non => some false
  | .non, .str _ => some false | .str _, .non => some false
  | .int _, .str _ => some false | .str _, .int _ => some false
  | .bl _, .str _ => some false | .str _, .bl _ => some false
  | a, b => deepEq h a b
def flatD : D → Bool
  | .non => true | .bl _ => true | .int _ => true | .str _ => true
  | _ => false
def flatEq : D → D → Bool
  | .non, .non => true
  | .bl a, .bl b => a == b
  | .bl a, .int b => (if a then 1 else 0) == b
  | .int a, .bl b => a == (if b then 1 else 0)
  | .int a, .int b => a == b
  | .str a, .str b => a == b
  | _, _ => false
def keyD : D → Option DK
  | .int i => some (.inl i)
  | .str s => some (.inr s)
  | _ => none
def lookK (kvs : List (DK × D)) (k : DK) : Option D := (kvs.find? fun kv => decide (kv.1 = k)).map (·.2)
def putKV (kvs : List (DK × D)) (k : DK) (v : D) : List (DK × D) :=
  if (kvs.any fun kv => decide (kv.1 = k)) = true then kvs.map (fun kv => if kv.1 = k then (kv.1, v) else kv) else kvs ++ [(k, v)]
/-- x in y -/
def inD (h : AH) (x y : D) : Option Bool :=
  match y with
  | .tup ds => if flatD x && ds.all flatD then some (ds.any fun z => flatEq z x) else none
  | .ref n => match h[n]? with
    | some (.lst ds) => if flatD x && ds.all flatD then some (ds.any fun z => flatEq z x) else
      match toPy h 66 x, mapO (toPy h 65) ds with
      | some p, some ps => if SeqAt.shaped p && SeqAt.shaped (.list ps) then some (ps.any fun z => PyData.eqv z p) else none
      | _, _ => none
    | some (.dic kvs) => match keyD x with
      | some k => some (lookK kvs k).isSome
      | none => none
    | _ => none
  | .str s => match x with
    | .str [c] => some (decide (c ∈ s))
    | _ => none
  | _ => none
def alloc (h : AH) (o : Ob) : Rs D := .ok (.ref h.length) (h ++ [o])
def binD (o : Bop) (a b : D) (h : AH) : Rs D :=
  match o, a, b with
  | .add, .int i, .int j => .ok (.int (i + j)) h
  | .add, .str s, .str t => if s.length + t.length ≤ lim then .ok (.str (s ++ t)) h else .no
  | .add, .tup ds, .tup es => if ds.length + es.length ≤ lim then .ok (.tup (ds ++ es)) h else .no
  | .add, .ref m, .ref n => match getL h m, getL h n with
    | some ds, some es => if ds.length + es.length ≤ lim then alloc h (.lst (ds ++ es)) else .no
    | _, _ => .no
  | .sub, .int i, .int j => .ok (.int (i - j)) h
  | .mul, .int i, .int j => if i.natAbs ≤ 18446744073709551615 ∨ j.natAbs ≤ 18446744073709551615 then .ok (.int (i * j)) h else .no
  | .fdv, .int i, .int j => if j ≠ 0 ∧ j.natAbs < 1073741824 then .ok (.int (i.fdiv j)) h else .no
  | .mod, .int i, .int j => if j ≠ 0 then .ok (.int (i.fmod j)) h else .no
  | .pow, .int i, .int j => if 0 ≤ j ∧ j.natAbs ≤ 1000000 ∧ i.natAbs ≤ 18446744073709551615 then .ok (.int (i ^ j.toNat)) h else .no
  | _, _, _ => .no
def cmpD (o : Cop) (a b : D) (h : AH) : Rs D :=
  match o with
  | .eq => ofO ((eqD h a b).map D.bl) h
  | .ne => ofO ((eqD h a b).map fun x => D.bl (!x)) h
  | .in_ => ofO ((inD h a b).map D.bl) h
  | .nin => ofO ((inD h a b).map fun x => D.bl (!x)) h
  | .lt => match a, b with | .int i, .int j => .ok (.bl (decide (i < j))) h | _, _ => .no
  | .le => match a, b with | .int i, .int j => .ok (.bl (decide (i ≤ j))) h | _, _ => .no
  | .gt => match a, b with | .int i, .int j => .ok (.bl (decide (j < i))) h | _, _ => .no
  | .ge => match a, b with | .int i, .int j => .ok (.bl (decide (j ≤ i))) h | _, _ => .no
def truD (h : AH) : D → Option Bool
  | .non => some false
  | .bl b => some b
  | .int i => some (decide (i ≠ 0))
  | .str s => if s.length ≤ lim then some (decide (s.length ≠ 0)) else none
  | .tup ds => some (!ds.isEmpty)
  | .fro ds => some (!ds.isEmpty)
  | .ref n => match h[n]? with
    | some (.lst ds) => some (!ds.isEmpty)
    | some (.dic kvs) => some (!kvs.isEmpty)
    | _ => none
def ixD (n : Nat) (i : Int) : Option Nat := if 0 ≤ i then (if i < n then some i.toNat else none) else if -(n : Int) ≤ i then some (i + n).toNat else none
def atD {α : Type} (xs : List α) (i : Int) : Option α := (ixD xs.length i).bind fun j => xs[j]?
def idxD (a i : D) (h : AH) : Rs D :=
  match a with
  | .tup ds => match i with | .int k => ofO (atD ds k) h | _ => .no
  | .fro ds => match i with | .int k => ofO (atD ds k) h | _ => .no
  | .str s => match i with | .int k => if s.length ≤ lim then ofO ((atD s k).map fun c => D.str [c]) h else .no | _ => .no
  | .ref n => match h[n]? with
    | some (.lst ds) => (match i with | .int k => ofO (atD ds k) h | _ => .no)
    | some (.dic kvs) => (match keyD i with | some k => ofO (lookK kvs k) h | none => .no)
    | _ => .no
  | _ => .no
/-- of an object that may be written -/
def idxM (a i : D) (h : AH) : Rs D := match a with
  | .ref _ => idxD a i h
  | _ => .no
def sx (n d : Nat) : Option Int → Nat
  | none => d
  | some i => if i < 0 then (i + n).toNat else min i.toNat n
def cutD {α : Type} (xs : List α) (lo hi : Option Int) : List α := (xs.drop (sx xs.length 0 lo)).take (sx xs.length xs.length hi - sx xs.length 0 lo)
def slcD (a : D) (lo hi : Option Int) (h : AH) : Rs D :=
  match a with
  | .tup ds => .ok (.tup (cutD ds lo hi)) h
  | .str s => if s.length ≤ lim then .ok (.str (cutD s lo hi)) h else .no
  | .ref n => match getL h n with
    | some ds => alloc h (.lst (cutD ds lo hi))
    | none => .no
  | _ => .no
def intsO : List D → Option (List Int) := mapO fun d => match d with | .int i => some i | _ => none
def maxL : Int → List Int → Int
  | m, [] => m
  | m, x :: xs => maxL (if x > m then x else m) xs
def minL : Int → List Int → Int
  | m, [] => m
  | m, x :: xs => minL (if x < m then x else m) xs
def bltD (b : Blt) (as : List D) (h : AH) : Rs D :=
  match b, as with
  | .len, [.tup ds] => .ok (.int ds.length) h
  | .len, [.fro ds] => .ok (.int ds.length) h
  | .len, [.str s] => if s.length ≤ lim then .ok (.int s.length) h else .no
  | .len, [.ref n] => (match h[n]? with
    | some (.lst ds) => .ok (.int ds.length) h
    | some (.dic kvs) => .ok (.int kvs.length) h
    | _ => .no)
  | .abs, [.int i] => .ok (.int (if i < 0 then -i else i)) h
  | .int, [.int i] => .ok (.int i) h
  | .int, [.bl k] => .ok (.int (if k then 1 else 0)) h
  | .list, [.tup ds] => alloc h (.lst ds)
  | .list, [.fro ds] => alloc h (.lst ds)
  | .list, [.ref n] => (match getL h n with
    | some ds => alloc h (.lst ds)
    | none => .no)
  | .tuple, [.tup ds] => .ok (.tup ds) h
  | .tuple, [.ref n] => (match getL h n with
    | some ds => .ok (.tup ds) h
    | none => .no)
  | .sum, [.ref n] => (match getL h n with
    | some ds => (match intsO ds with
      | some ns => .ok (.int ns.sum) h
      | none => .no)
    | none => .no)
  | .max, [.ref n] => (match getL h n with
    | some ds => (match intsO ds with
      | some (m :: ns) => .ok (.int (maxL m ns)) h
      | _ => .no)
    | none => .no)
  | .min, [.ref n] => (match getL h n with
    | some ds => (match intsO ds with
      | some (m :: ns) => .ok (.int (minL m ns)) h
      | _ => .no)
    | none => .no)
  | .max2, [.int i, .int j] => .ok (.int (if j > i then j else i)) h
  | .min2, [.int i, .int j] => .ok (.int (if j < i then j else i)) h
  | _, _ => .no
def isD (h : AH) (t : Ty) : D → Option Bool
  | .non => some false
  | .bl _ => some (match t with | .int => true | .bool => true | _ => false)
  | .int _ => some (match t with | .int => true | _ => false)
  | .str _ => some (match t with | .str => true | _ => false)
  | .tup _ => some (match t with | .tuple => true | _ => false)
  | .fro _ => none
  | .ref n => match h[n]? with
    | some (.lst _) => some (match t with | .list => true | _ => false)
    | some (.dic _) => some false
    | _ => none
def mthD (m : Mth) (o : D) (as : List D) (h : AH) : Rs D :=
  match o with
  | .ref n => match m, h[n]?, as with
    | .append, some (.lst ds), [d] => if ds.length < lim then .ok .non (h.set n (.lst (ds ++ [d]))) else .no
    | .extend, some (.lst ds), [.ref k] => (match getL h k with
      | some es => if ds.length + es.length ≤ lim then .ok .non (h.set n (.lst (ds ++ es))) else .no
      | none => .no)
    | .pop, some (.lst ds), [] => (match ds.getLast? with
      | some d => .ok d (h.set n (.lst ds.dropLast))
      | none => .no)
    | .index, some (.lst ds), [d] => if flatD d && ds.all flatD then (match ds.findIdx? fun z => flatEq z d with
      | some j => .ok (.int j) h
      | none => .no) else .no
    | .get1, some (.dic kvs), [k] => (match keyD k with
      | some k => .ok ((lookK kvs k).getD .non) h
      | none => .no)
    | .get2, some (.dic kvs), [k, d] => (match keyD k with
      | some k => .ok ((lookK kvs k).getD d) h
      | none => .no)
    | _, _, _ => .no
  | _ => .no
/-- the receiver is of the method's type -/
def mthTy (m : Mth) (x : D) (h : AH) : Bool :=
  match x with
  | .ref n => match h[n]? with
    | some (.lst _) => (match m with | .append => true | .extend => true | .pop => true | .index => true | _ => false)
    | some (.dic _) => (match m with | .get1 => true | .get2 => true | _ => false)
    | _ => false
  | _ => false
def pairsO : List D → Option (List (DK × D))
  | [] => some []
  | k :: v :: r => match keyD k, pairsO r with
    | some k, some ps => some ((k, v) :: ps)
    | _, _ => none
  | _ => none

/-! ### targets, loops -/
def bindAll : List Nat → List D → Env' → Option Env'
  | [], [], e => some e
  | i :: is, d :: ds, e => bindAll is ds (e.set i (some d))
  | _, _, _ => none
def itemsOf (h : AH) : D → Option (List D)
  | .tup ds => some ds
  | .ref n => getL h n
  | _ => none
def bindT (t : Tg) (d : D) (e : Env') (h : AH) : Option Env' :=
  match t with
  | .one i => some (e.set i (some d))
  | .tup is => match d with
    | .tup ds => bindAll is ds e
    | _ => none
def wipeE (e : Env') : List Nat → Env'
  | [] => e
  | v :: vs => (wipeE e vs).set v none
/-- what a loop walks: written items, or the list number n (as many turns) -/
inductive Src where
  | ds (l : List D)
  | ln (n : Nat) (tot : Nat)
def rangeD (lo : Int) : Nat → Nat → List D
  | _, 0 => []
  | i, n + 1 => .int (lo + i) :: rangeD lo (i + 1) n
def enumD : Nat → List D → List D
  | _, [] => []
  | i, d :: ds => .tup [.int i, d] :: enumD (i + 1) ds
def zipD : List D → List D → List D
  | d :: ds, e :: es => .tup [d, e] :: zipD ds es
  | _, _ => []
def srcOf (k : IK) (as : List D) (h : AH) : Option Src :=
  match k, as with
  | .seq, [.tup ds] => some (.ds ds)
  | .seq, [.ref n] => (getL h n).map fun ds => .ln n ds.length
  | .enum, [.tup ds] => some (.ds (enumD 0 ds))
  | .rng1, [.int j] => if j.natAbs ≤ 900000000 then some (.ds (rangeD 0 0 j.toNat)) else none
  | .rng2, [.int i, .int j] => if i.natAbs ≤ 900000000 ∧ j.natAbs ≤ 900000000 then some (.ds (rangeD i 0 (j - i).toNat)) else none
  | _, _ => none
/-- the comprehension's turns; the new list has the number m -/
def lcD (m : Nat) (step : D → AH → Rs (Option D)) : List D → AH → Rs D
  | [], h => .ok (.ref m) h
  | d :: ds, h => (step d h).bind fun r h1 => match r with
    | none => lcD m step ds h1
    | some y => match getL h1 m with
      | some acc => if acc.length < lim then lcD m step ds (h1.set m (.lst (acc ++ [y]))) else .no
      | none => .no
def lcN (m : Nat) (step : D → AH → Rs (Option D)) (n : Nat) : Nat → Nat → AH → Rs D
  | 0, i, h => match getL h n with
    | some ds => if ds.length ≤ i then .ok (.ref m) h else .no
    | none => .no
  | c + 1, i, h => match getL h n with
    | some ds => match ds[i]? with
      | some d => (step d h).bind fun r h1 => match r with
        | none => lcN m step n c (i + 1) h1
        | some y => match getL h1 m with
          | some acc => if acc.length < lim then lcN m step n c (i + 1) (h1.set m (.lst (acc ++ [y]))) else .no
          | none => .no
      | none => .no
    | none => .no

/-- one turn of a comprehension, as the interpreter says it -/
def lcStep (tg : Tg) (own : List Nat) (test : Env' → AH → Rs Bool) (el : Env' → AH → Rs D) (env : Env') : D → AH → Rs (Option D) := fun d h2 => match bindT tg d (wipeE env own) h2 with
  | none => .no
  | some e2 => (test e2 h2).bind fun b h3 => match b with
    | true => (el e2 h3).bind fun y h4 => .ok (some y) h4
    | false => .ok none h3

/-! ### expressions -/
abbrev Cal := Nat → List D → AH → Rs D
section
variable (cal : Cal)
mutual
def ev : CE → Env' → AH → Rs D
  | .var i, e, h => match e[i]? with
    | some (some d) => .ok d h
    | _ => .no
  | .cst d, _, h => .ok d h
  | .bin o a b, e, h => (ev a e h).bind fun x h1 => (ev b e h1).bind fun y h2 => binD o x y h2
  | .cmp o a b, e, h => (ev a e h).bind fun x h1 => (ev b e h1).bind fun y h2 => cmpD o x y h2
  | .chain o o' a b c, e, h => (ev a e h).bind fun x h1 => (ev b e h1).bind fun y h2 => (cmpD o x y h2).bind fun r h3 =>
    match r with
    | .bl true => (ev c e h3).bind fun z h4 => cmpD o' y z h4
    | .bl false => .ok (.bl false) h3
    | _ => .no
  | .isN n a, e, h => (ev a e h).bind fun x h1 => match x with
    | .non => .ok (.bl (!n)) h1
    | _ => .ok (.bl n) h1
  | .neg a, e, h => (ev a e h).bind fun x h1 => match x with
    | .int i => .ok (.int (-i)) h1
    | _ => .no
  | .not a, e, h => (ev a e h).bind fun x h1 => match truD h1 x with
    | some b => .ok (.bl (!b)) h1
    | none => .no
  | .and a b, e, h => (ev a e h).bind fun x h1 => match truD h1 x with
    | some true => ev b e h1
    | some false => .ok x h1
    | none => .no
  | .or a b, e, h => (ev a e h).bind fun x h1 => match truD h1 x with
    | some true => .ok x h1
    | some false => ev b e h1
    | none => .no
  | .ite c a b, e, h => (ev c e h).bind fun x h1 => match truD h1 x with
    | some true => ev a e h1
    | some false => ev b e h1
    | none => .no
  | .tup as, e, h => (evs as e h).bind fun ds h1 => .ok (.tup ds) h1
  | .lst as, e, h => (evs as e h).bind fun ds h1 => alloc h1 (.lst ds)
  | .dic as, e, h => (evs as e (h ++ [.dic []])).bind fun ds h1 => match h1[h.length]?, pairsO ds with
    | some (.dic []), some ps => if ps.length ≤ 15 then .ok (.ref h.length) (h1.set h.length (.dic (ps.foldl (fun acc kv => putKV acc kv.1 kv.2) []))) else .no
    | _, _ => .no
  | .an, _, _ => .no
  | .ac _ _, _, _ => .no
  | .idx a i, e, h => (ev a e h).bind fun x h1 => (ev i e h1).bind fun y h2 => idxD x y h2
  | .slc l u a lo hi, e, h => (ev a e h).bind fun x h1 =>
    (if l then (ev lo e h1).bind fun y h2 => (match y with | .int i => .ok (some i) h2 | _ => .no) else .ok none h1 : Rs (Option Int)).bind fun lo' h2 =>
    (if u then (ev hi e h2).bind fun y h3 => (match y with | .int i => .ok (some i) h3 | _ => .no) else .ok none h2 : Rs (Option Int)).bind fun hi' h3 => slcD x lo' hi' h3
  | .call f as, e, h => (evs as e h).bind fun ds h1 => cal f ds h1
  | .callk f p as ks, e, h => (evs as e h).bind fun ds h1 => (evs ks e h1).bind fun es h2 => match mapO (fun i => (ds ++ es)[i]?) p with
    | some zs => cal f zs h2
    | none => .no
  | .blt b as, e, h => (evs as e h).bind fun ds h1 => bltD b ds h1
  | .isi t a, e, h => (ev a e h).bind fun x h1 => ofO ((isD h1 t x).map D.bl) h1
  | .mth m o as, e, h => (ev o e h).bind fun x h1 => if mthTy m x h1 then (evs as e h1).bind fun ds h2 => mthD m x ds h2 else .no
  | .lc k src tg own ifs c el, e, h => (evs src e h).bind fun ss h1 => match srcOf k ss h1 with
    | none => .no
    | some s =>
      let m := h1.length
      let step : D → AH → Rs (Option D) := lcStep tg own (if ifs then fun e2 h3 => (ev c e2 h3).bind fun x h4 => ofO (truD h4 x) h4 else fun _ h3 => .ok true h3) (fun e2 h3 => ev el e2 h3) e
      match s with
      | .ds ds => lcD m step ds (h1 ++ [.lst []])
      | .ln n tot => lcN m step n tot 0 (h1 ++ [.lst []])
def evs : CE → Env' → AH → Rs (List D)
  | .an, _, h => .ok [] h
  | .ac a as, e, h => (ev a e h).bind fun x h1 => (evs as e h1).bind fun xs h2 => .ok (x :: xs) h2
  | _, _, _ => .no
end

/-! ### statements -/
inductive Fl where
  | nx (e : Env') | rt (d : D) | bk (e : Env') | ct (e : Env')
def forD (body : D → Env' → AH → Rs Fl) : List D → Env' → AH → Rs Fl
  | [], e, h => .ok (.nx e) h
  | d :: ds, e, h => (body d e h).bind fun f h1 => match f with
    | .nx e1 => forD body ds e1 h1
    | .ct e1 => forD body ds e1 h1
    | .bk e1 => .ok (.nx e1) h1
    | .rt x => .ok (.rt x) h1
def forN (body : D → Env' → AH → Rs Fl) (n : Nat) : Nat → Nat → Env' → AH → Rs Fl
  | 0, i, e, h => match getL h n with
    | some ds => if ds.length ≤ i then .ok (.nx e) h else .no
    | none => .no
  | c + 1, i, e, h => match getL h n with
    | some ds => match ds[i]? with
      | some d => (body d e h).bind fun f h1 => match f with
        | .nx e1 => forN body n c (i + 1) e1 h1
        | .ct e1 => forN body n c (i + 1) e1 h1
        | .bk e1 => .ok (.nx e1) h1
        | .rt x => .ok (.rt x) h1
      | none => .no
    | none => .no
def whlF (test : Env' → AH → Rs Bool) (body : Env' → AH → Rs Fl) : Nat → Env' → AH → Rs Fl
  | 0, _, _ => .no
  | n + 1, e, h => (test e h).bind fun b h1 => match b with
    | false => .ok (.nx e) h1
    | true => (body e h1).bind fun f h2 => match f with
      | .nx e1 => whlF test body n e1 h2
      | .ct e1 => whlF test body n e1 h2
      | .bk e1 => .ok (.nx e1) h2
      | .rt x => .ok (.rt x) h2
def evT (c : CE) (e : Env') (h : AH) : Rs Bool := (ev cal c e h).bind fun x h1 => ofO (truD h1 x) h1
def turns : Nat := 1000000000
def sxl (h : AH) (a i v : D) : Rs Unit :=
  match a with
  | .ref n => match h[n]? with
    | some (.lst ds) => (match i with
      | .int k => (match ixD ds.length k with
        | some j => .ok () (h.set n (.lst (ds.set j v)))
        | none => .no)
      | _ => .no)
    | some (.dic kvs) => (match keyD i with
      | some k => if kvs.length < lim then .ok () (h.set n (.dic (putKV kvs k v))) else .no
      | none => .no)
    | _ => .no
  | _ => .no
def augD (o : Bop) (a b : D) (h : AH) : Rs D :=
  match o, a, b with
  | .add, .int i, .int j => .ok (.int (i + j)) h
  | .sub, .int i, .int j => .ok (.int (i - j)) h
  | _, _, _ => .no
def exec : CS → Env' → AH → Rs Fl
  | .skip, e, h => .ok (.nx e) h
  | .seq a b, e, h => (exec a e h).bind fun f h1 => match f with
    | .nx e1 => exec b e1 h1
    | .rt d => .ok (.rt d) h1
    | .bk e1 => .ok (.bk e1) h1
    | .ct e1 => .ok (.ct e1) h1
  | .set i x, e, h => (ev cal x e h).bind fun d h1 => .ok (.nx (e.set i (some d))) h1
  | .setT is x, e, h => (ev cal x e h).bind fun d h1 => match d with
    | .tup ds => (match bindAll is ds e with | some e1 => .ok (.nx e1) h1 | none => .no)
    | _ => .no
  | .setIx o i x, e, h => (ev cal x e h).bind fun v h1 => (ev cal o e h1).bind fun a h2 => (ev cal i e h2).bind fun k h3 => (sxl h3 a k v).bind fun _ h4 => .ok (.nx e) h4
  | .aug o i x, e, h => match e[i]? with
    | some (some d) => (ev cal x e h).bind fun y h1 => (augD o d y h1).bind fun z h2 => .ok (.nx (e.set i (some z))) h2
    | _ => .no
  | .augIx o a i x, e, h => (ev cal a e h).bind fun a' h1 => (ev cal i e h1).bind fun k h2 => (idxM a' k h2).bind fun old h3 => (ev cal x e h3).bind fun y h4 =>
    (augD o old y h4).bind fun z h5 => (sxl h5 a' k z).bind fun _ h6 => .ok (.nx e) h6
  | .ife c a b, e, h => (evT cal c e h).bind fun t h1 => if t then exec a e h1 else exec b e h1
  | .for_ k src tg b, e, h => (evs cal src e h).bind fun ss h1 => match srcOf k ss h1 with
    | none => .no
    | some s =>
      let body : D → Env' → AH → Rs Fl := fun d e1 h2 => match bindT tg d e1 h2 with
        | none => .no
        | some e2 => exec b e2 h2
      match s with
      | .ds ds => forD body ds e h1
      | .ln n tot => forN body n tot 0 e h1
  | .whl c b, e, h => whlF (evT cal c) (exec b) turns e h
  | .ret x, e, h => (ev cal x e h).bind fun d h1 => .ok (.rt d) h1
  | .retN, _, h => .ok (.rt .non) h
  | .expr x, e, h => (ev cal x e h).bind fun _ h1 => .ok (.nx e) h1
  | .brk, e, h => .ok (.bk e) h
  | .cnt, e, h => .ok (.ct e) h
  | .stuck, _, _ => .no
end

/-! ### defs -/
structure Def where
  params : Nat
  slots : Nat
  body : CS
def startE (d : Def) (as : List D) : Env' := as.map some ++ List.replicate (d.slots - as.length) none
def retF (f : Fl) (h : AH) : Rs D :=
  match f with
  | .nx _ => .ok .non h
  | .rt x => .ok x h
  | _ => .no
def runDef (cal : Cal) (d : Def) (as : List D) (h : AH) : Rs D :=
  if as.length = d.params then (exec cal d.body (startE d as) h).bind retF else .no
/-- calls, k deep at most -/
def calls (T : List Def) : Nat → Cal
  | 0, _, _, _ => .no
  | k + 1, f, as, h => match T[f]? with
    | some d => runDef (calls T k) d as h
    | none => .no
end Rf

namespace Rf
open PySem PySem.Spec PyProof.Rows L2

section
variable (K : PySem.W.Frag) (cls : Nat → Option Addr)
def FinG {α β : Type} (R : List Addr → Hp → α → β → Prop) (ρ : List Addr) (H : Hp) (Q : β → Hp → Prop) : Rs α → Prop
  | .ok a h => ∀ b H' ρ', Ext ρ ρ' → Keep H H' → R ρ' H' a b → HR K cls ρ' H' h → Q b H'
  | .ex _ _ => False
  | .no => False
def tG {α β : Type} (R : List Addr → Hp → α → β → Prop) (f : Env' → AH → Rs α) (σ : L2.St) (H : Hp) (Q : β → Hp → Prop) : Prop :=
  ∃ ρ env h, ER K ρ H env σ ∧ HR K cls ρ H h ∧ FinG K cls R ρ H Q (f env h)
abbrev tE (f : Env' → AH → Rs D) : TE := tG K cls (RD K) f
abbrev tA (f : Env' → AH → Rs (List D)) : TA := tG K cls (RDs K) f
abbrev RB : List Addr → Hp → Bool → Bool → Prop := fun _ _ a b => a = b
abbrev tT (f : Env' → AH → Rs Bool) : TT := tG K cls RB f
def FinS (ρ : List Addr) (H : Hp) (D' : Ends) : Rs Fl → Prop
  | .ok (.nx e) h => ∀ σ' H' ρ', Ext ρ ρ' → Keep H H' → ER K ρ' H' e σ' → HR K cls ρ' H' h → D'.nx σ' H'
  | .ok (.bk e) h => ∀ σ' H' ρ', Ext ρ ρ' → Keep H H' → ER K ρ' H' e σ' → HR K cls ρ' H' h → D'.bk σ' H'
  | .ok (.ct e) h => ∀ σ' H' ρ', Ext ρ ρ' → Keep H H' → ER K ρ' H' e σ' → HR K cls ρ' H' h → D'.ct σ' H'
  | .ok (.rt d) h => ∀ v H' ρ', Ext ρ ρ' → Keep H H' → RD K ρ' H' d v → HR K cls ρ' H' h → D'.rt v H'
  | .ex _ _ => False
  | .no => False
def tS (f : Env' → AH → Rs Fl) : TS := fun D' σ H => ∃ ρ env h, ER K ρ H env σ ∧ HR K cls ρ H h ∧ FinS K cls ρ H D' (f env h)
end

section
variable {K : PySem.W.Frag} {cls : Nat → Option Addr} {α β γ δ : Type} {R : List Addr → Hp → α → β → Prop} {R' : List Addr → Hp → γ → δ → Prop} {ρ ρ1 : List Addr} {H H1 : Hp} {Q Q' : β → Hp → Prop} {r : Rs α}
theorem FinG.weaken (hf : FinG K cls R ρ H Q r) (x : Ext ρ ρ1) (k : Keep H H1) : FinG K cls R ρ1 H1 Q r := by
  cases r with
  | ok a h => exact fun b H' ρ' x' k' => hf b H' ρ' (x.trans x') (k.trans k')
  | ex _ _ => exact hf
  | no => exact hf
theorem FinG.mono (hf : FinG K cls R ρ H Q r) (hq : ∀ b H', Q b H' → Q' b H') : FinG K cls R ρ H Q' r := by
  cases r with
  | ok a h => exact fun b H' ρ' x' k' r' h' => hq _ _ (hf b H' ρ' x' k' r' h')
  | ex _ _ => exact hf
  | no => exact hf
theorem FinG.self {a : α} {b : β} {h : AH} (hf : FinG K cls R ρ H Q (.ok a h)) (r : R ρ H a b) (hr : HR K cls ρ H h) : Q b H := hf b H ρ Ext.refl Keep.refl r hr
theorem tG.mono {f : Env' → AH → Rs α} {σ : L2.St} (t : tG K cls R f σ H Q) (hq : ∀ b H', Q b H' → Q' b H') : tG K cls R f σ H Q' := by
  obtain ⟨ρ, env, h, er, hr, hf⟩ := t
  exact ⟨ρ, env, h, er, hr, hf.mono hq⟩
/-- the first of two steps -/
theorem tG.bind {f : Env' → AH → Rs α} {σ : L2.St} {env : Env'} {h : AH} {g : α → AH → Rs γ} {Q2 : δ → Hp → Prop} (er : ER K ρ H env σ) (hr : HR K cls ρ H h) (hf : FinG K cls R' ρ H Q2 ((f env h).bind g))
    (hq : ∀ b H1 ρ1 a h1, Ext ρ ρ1 → Keep H H1 → R ρ1 H1 a b → HR K cls ρ1 H1 h1 → ER K ρ1 H1 env σ → FinG K cls R' ρ1 H1 Q2 (g a h1) → Q b H1) : tG K cls R f σ H Q := by
  refine ⟨ρ, env, h, er, hr, ?_⟩
  generalize f env h = r at hf
  cases r with
  | ok a h1 => exact fun b H' ρ' x k r' h' => hq b H' ρ' a h1 x k r' h' (er.mono x k) (FinG.weaken (R := R') hf x k)
  | ex _ _ => exact hf
  | no => exact hf
theorem FinS.weaken {D' : Ends} {r : Rs Fl} (hf : FinS K cls ρ H D' r) (x : Ext ρ ρ1) (k : Keep H H1) : FinS K cls ρ1 H1 D' r := by
  cases r with
  | ok f h => cases f <;> exact fun b H' ρ' x' k' => hf b H' ρ' (x.trans x') (k.trans k')
  | ex _ _ => exact hf
  | no => exact hf
/-- an expression ahead of a statement's end -/
theorem tG.bindS {f : Env' → AH → Rs α} {σ : L2.St} {env : Env'} {h : AH} {g : α → AH → Rs Fl} {D' : Ends} (er : ER K ρ H env σ) (hr : HR K cls ρ H h) (hf : FinS K cls ρ H D' ((f env h).bind g))
    (hq : ∀ b H1 ρ1 a h1, Ext ρ ρ1 → Keep H H1 → R ρ1 H1 a b → HR K cls ρ1 H1 h1 → ER K ρ1 H1 env σ → FinS K cls ρ1 H1 D' (g a h1) → Q b H1) : tG K cls R f σ H Q := by
  refine ⟨ρ, env, h, er, hr, ?_⟩
  generalize f env h = r at hf
  cases r with
  | ok a h1 => exact fun b H' ρ' x k r' h' => hq b H' ρ' a h1 x k r' h' (er.mono x k) (FinS.weaken hf x k)
  | ex _ _ => exact hf
  | no => exact hf
end

/-! ### weakening readings -/
theorem PE.imp {X : Cx} {e : Expr} {t t' : TE} (h : PE X e t) (i : ∀ σ H Q, t' σ H Q → t σ H Q) : PE X e t' := ⟨fun pins s σ H Q I q => h.run pins s σ H Q I (i _ _ _ q)⟩
theorem PT.imp {X : Cx} {e : Expr} {t t' : TT} (h : PT X e t) (i : ∀ σ H Q, t' σ H Q → t σ H Q) : PT X e t' := ⟨fun pins s σ H Q I q => h.run pins s σ H Q I (i _ _ _ q)⟩
theorem PW.imp {X : Cx} {e : Expr} {t t' : TT} (h : PW X e t) (i : ∀ σ H Q, t' σ H Q → t σ H Q) : PW X e t' := ⟨fun w pins s σ H Q I q => h.run w pins s σ H Q I (i _ _ _ q)⟩
theorem PA.imp {X : Cx} {e : List Expr} {t t' : TA} (h : PA X e t) (i : ∀ σ H Q, t' σ H Q → t σ H Q) : PA X e t' := ⟨fun pos pins s σ H Q I q => h.run pos pins s σ H Q I (i _ _ _ q)⟩
theorem PS.imp {X : Cx} {e : Stmt} {t t' : TS} (h : PS X e t) (i : ∀ D' σ H, t' D' σ H → t D' σ H) : PS X e t' := ⟨fun pins s σ H D' I q => h.run pins s σ H D' I (i _ _ _ q)⟩
theorem PSs.imp {X : Cx} {e : List Stmt} {t t' : TS} (h : PSs X e t) (i : ∀ D' σ H, t' D' σ H → t D' σ H) : PSs X e t' := ⟨fun pins s σ H D' I q => h.run pins s σ H D' I (i _ _ _ q)⟩
theorem PE.or {X : Cx} {e : Expr} {t t' : TE} (h : PE X e t) (h' : PE X e t') : PE X e (fun σ H Q => t σ H Q ∨ t' σ H Q) := ⟨fun pins s σ H Q I q => q.elim (h.run pins s σ H Q I) (h'.run pins s σ H Q I)⟩
theorem PI.or {X : Cx} {tg e : Expr} {t t' : TI} (h : PI X tg e t) (h' : PI X tg e t') : PI X tg e (fun σ H Q => t σ H Q ∨ t' σ H Q) := ⟨fun pins s σ H Q I q => q.elim (h.run pins s σ H Q I) (h'.run pins s σ H Q I)⟩
theorem OpR.imp {X : Cx} {f : Value → Value → Sem Value} {r r' : R2} (h : OpR X f r) (i : ∀ x y H Q, r' x y H Q → r x y H Q) : OpR X f r' := fun pins s σ H x y v u Q I rx ry q => h pins s σ H x y v u Q I rx ry (i _ _ _ _ q)
theorem IxR.imp {X : Cx} {r r' : R2} (h : IxR X r) (i : ∀ x y H Q, r' x y H Q → r x y H Q) : IxR X r' := fun value slice pins s σ H x y v u Q I rx ry q => h value slice pins s σ H x y v u Q I rx ry (i _ _ _ _ q)
theorem CallR.imp {X : Cx} {f : Value} {r r' : List V → Hp → VK → Prop} (h : CallR X f r) (i : ∀ x H Q, r' x H Q → r x H Q) : CallR X f r' := fun pins s σ H xs us Q I rx q => h pins s σ H xs us Q I rx (i _ _ _ q)
theorem MtR.imp {X : Cx} {id : String} {r r' : V → List V → Hp → VK → Prop} (h : MtR X id r) (i : ∀ x xs H Q, r' x xs H Q → r x xs H Q) : MtR X id r' := fun pins s σ H x xs v us Q I rx rs q => h pins s σ H x xs v us Q I rx rs (i _ _ _ _ q)

/-! ### by values: what an operation of the interpreter gives, in the layer's words -/
section
variable (K : PySem.W.Frag) (cls : Nat → Option Addr)
/-- a two-place operation -/
def r2 (f : D → D → AH → Rs D) : R2 := fun x y H Q => ∃ ρ h a b, HR K cls ρ H h ∧ RD K ρ H a x ∧ RD K ρ H b y ∧ FinG K cls (RD K) ρ H Q (f a b h)
end
section
variable {K : PySem.W.Frag} {cls : Nat → Option Addr} {ρ : List Addr} {H : Hp} {h : AH} {Q : VK}
theorem getL_at {n : Nat} {ds : List D} (e : getL h n = some ds) : h[n]? = some (.lst ds) := by
  unfold getL at e
  split at e
  · cases e; assumption
  · cases e
theorem HR.lst (hr : HR K cls ρ H h) {n : Nat} {ds : List D} {x : V} (e : h[n]? = some (.lst ds)) (rx : RD K ρ H (.ref n) x) : ∃ a xs, x = .ref a ∧ ρ[n]? = some a ∧ H a = some (.lst xs) ∧ RDs K ρ H ds xs := by
  obtain ⟨a, ha, rfl⟩ := rx.ref_e
  obtain ⟨xs, h1, h2⟩ := hr.ob n _ a e ha
  exact ⟨a, xs, rfl, ha, h1, h2⟩
theorem HR.dic (hr : HR K cls ρ H h) {n : Nat} {kvs : List (DK × D)} {x : V} (e : h[n]? = some (.dic kvs)) (rx : RD K ρ H (.ref n) x) : ∃ a ks, x = .ref a ∧ ρ[n]? = some a ∧ H a = some (.dK ks) ∧ KVs K ρ H kvs ks := by
  obtain ⟨a, ha, rfl⟩ := rx.ref_e
  obtain ⟨xs, h1, h2⟩ := hr.ob n _ a e ha
  exact ⟨a, xs, rfl, ha, h1, h2⟩
/-- a new list -/
theorem fin_alloc_lst {ds : List D} {xs : List V} (hr : HR K cls ρ H h) (r : RDs K ρ H ds xs) (hf : FinG K cls (RD K) ρ H Q (alloc h (.lst ds))) : ∀ p, H p = none → Q (.ref p) (upd H p (.lst xs)) := fun p hp => by
  have k : Keep H (upd H p (.lst xs)) := Keep.fresh hp
  refine hf (.ref p) _ (ρ ++ [p]) Ext.snoc k (RD.ref ?_) (hr.alloc hp ⟨xs, upd_same, r.mono Ext.snoc k⟩)
  rw [hr.len, List.getElem?_append_right (Nat.le_refl _)]
  simp
/-- a new tuple -/
theorem fin_tup {ds : List D} {xs : List V} (hr : HR K cls ρ H h) (r : RDs K ρ H ds xs) (hf : FinG K cls (RD K) ρ H Q (.ok (.tup ds) h)) : ∀ p, H p = none → Q (.ref p) (upd H p (.tup xs)) := fun p hp => by
  have k : Keep H (upd H p (.tup xs)) := Keep.fresh hp
  exact hf (.ref p) _ ρ Ext.refl k (RD.tup (SqT.of upd_same) (r.mono Ext.refl k)) (hr.fresh hp)
theorem lim_eq : lim = sizeLine := rfl
theorem S_app (s t : Sg) : S (s ++ t) = S s ++ S t := by
  show (⟨_⟩ : Str) = ⟨_⟩
  simp [S, Str.append]
end
end Rf

namespace Rf
open PySem PySem.Spec PyProof.Rows L2
variable {X : Cx} {cls : Nat → Option Addr}

theorem OpR.sum {f : Value → Value → Sem Value} {r r' : R2} {q : R2} (h : OpR X f r) (h' : OpR X f r') (i : ∀ x y H Q, q x y H Q → r x y H Q ∨ r' x y H Q) : OpR X f q := OpR.imp (OpR.or h h') i

theorem ob_add : OpR X (binaryOp .Add) (r2 X.K cls (binD .add)) := by
  refine OpR.imp (OpR.or op_add (OpR.or op_add_str (OpR.or op_catA op_cat))) fun x y H Q hq => ?_
  obtain ⟨ρ, h, a, b, hr, rx, ry, hf⟩ := hq
  unfold binD at hf
  split at hf
  · cases ‹Bop.add = _›
    exact .inl ⟨_, _, rx.int_e, ry.int_e, hf.self RD.int hr⟩
  · split at hf
    · rename_i s t _ hl
      refine .inr (.inl ⟨_, _, rx.str_e, ry.str_e, ?_, ?_⟩)
      · rw [S_len, S_len]; exact hl
      · rw [← S_app]; exact hf.self RD.str hr
    · exact hf.elim
  · split at hf
    · rename_i ds es _ hl
      obtain ⟨p, xs, rfl, hp, rp⟩ := rx.tup_e
      obtain ⟨q, ys, rfl, hq, rq⟩ := ry.tup_e
      refine .inr (.inr (.inl ⟨p, q, xs, ys, rfl, rfl, hp, hq, ?_, fun e => ?_, fun _ e => ?_, fun _ _ => ?_⟩))
      · rw [rp.length, rq.length]; exact hl
      · subst e
        have : ds = [] := by have := rp.length; simpa using this.symm
        subst this
        exact hf.self (RD.tup hq rq) hr
      · subst e
        have : es = [] := by have := rq.length; simpa using this.symm
        subst this
        rw [List.append_nil] at hf
        exact hf.self (RD.tup hp rp) hr
      · exact fin_tup hr (rp.append rq) hf
    · exact hf.elim
  · split at hf
    · rename_i ds es e1 e2
      split at hf
      · rename_i hl
        obtain ⟨p, xs, rfl, _, hp, rp⟩ := hr.lst (getL_at e1) rx
        obtain ⟨q, ys, rfl, _, hq, rq⟩ := hr.lst (getL_at e2) ry
        refine .inr (.inr (.inr ⟨p, q, xs, ys, rfl, rfl, hp, hq, ?_, ?_⟩))
        · rw [rp.length, rq.length]; exact hl
        · exact fin_alloc_lst hr (rp.append rq) hf
      · exact hf.elim
    · exact hf.elim
  all_goals first | (cases ‹Bop.add = _›; done) | exact hf.elim
theorem ob_sub : OpR X (binaryOp .Sub) (r2 X.K cls (binD .sub)) := by
  refine OpR.imp op_sub fun x y H Q hq => ?_
  obtain ⟨ρ, h, a, b, hr, rx, ry, hf⟩ := hq
  unfold binD at hf
  split at hf
  all_goals first
    | (cases ‹Bop.sub = _›; done)
    | exact ⟨_, _, rx.int_e, ry.int_e, hf.self RD.int hr⟩
    | exact hf.elim
theorem cmul_n {i j : Int} (h : i.natAbs ≤ 18446744073709551615 ∨ j.natAbs ≤ 18446744073709551615) : CMul i j := by
  have e : (2 : Int) ^ 64 = 18446744073709551616 := by decide
  show (-((2 : Int) ^ 64) < i ∧ i < (2 : Int) ^ 64) ∨ (-((2 : Int) ^ 64) < j ∧ j < (2 : Int) ^ 64)
  rw [e]
  omega
theorem cpow_n {i j : Int} (h : 0 ≤ j ∧ j.natAbs ≤ 1000000 ∧ i.natAbs ≤ 18446744073709551615) : CPow i j := by
  have e : (2 : Nat) ^ 64 = 18446744073709551616 := by decide
  show 0 ≤ j ∧ j ≤ 1000000 ∧ i.natAbs < (2 : Nat) ^ 64
  rw [e]
  omega
theorem ob_mul : OpR X (binaryOp .Mult) (r2 X.K cls (binD .mul)) := by
  refine OpR.imp op_mul fun x y H Q hq => ?_
  obtain ⟨ρ, h, a, b, hr, rx, ry, hf⟩ := hq
  unfold binD at hf
  split at hf
  all_goals first
    | (cases ‹Bop.mul = _›; done)
    | (split at hf
       · rename_i hb
         exact ⟨_, _, rx.int_e, ry.int_e, (cmul_n hb), hf.self RD.int hr⟩
       · exact hf.elim)
    | exact hf.elim
theorem ob_fdv : OpR X (binaryOp .FloorDiv) (r2 X.K cls (binD .fdv)) := by
  refine OpR.imp op_fdivN fun x y H Q hq => ?_
  obtain ⟨ρ, h, a, b, hr, rx, ry, hf⟩ := hq
  unfold binD at hf
  split at hf
  all_goals first
    | (cases ‹Bop.fdv = _›; done)
    | (split at hf
       · exact ⟨_, _, rx.int_e, ry.int_e, by assumption, hf.self RD.int hr⟩
       · exact hf.elim)
    | exact hf.elim
theorem ob_mod : OpR X (binaryOp .Mod) (r2 X.K cls (binD .mod)) := by
  refine OpR.imp op_modN fun x y H Q hq => ?_
  obtain ⟨ρ, h, a, b, hr, rx, ry, hf⟩ := hq
  unfold binD at hf
  split at hf
  all_goals first
    | (cases ‹Bop.mod = _›; done)
    | (split at hf
       · exact ⟨_, _, rx.int_e, ry.int_e, by assumption, hf.self RD.int hr⟩
       · exact hf.elim)
    | exact hf.elim
theorem ob_pow : OpR X (binaryOp .Pow) (r2 X.K cls (binD .pow)) := by
  refine OpR.imp op_pow fun x y H Q hq => ?_
  obtain ⟨ρ, h, a, b, hr, rx, ry, hf⟩ := hq
  unfold binD at hf
  split at hf
  all_goals first
    | (cases ‹Bop.pow = _›; done)
    | (split at hf
       · rename_i hb
         exact ⟨_, _, rx.int_e, ry.int_e, (cpow_n hb), hf.self RD.int hr⟩
       · exact hf.elim)
    | exact hf.elim
def bopOf : Operator → Option Bop
  | .Add => some .add | .Sub => some .sub | .Mult => some .mul | .FloorDiv => some .fdv | .Mod => some .mod | .Pow => some .pow
  | _ => none
theorem ob_all {op : Operator} {o : Bop} (e : bopOf op = some o) : OpR X (binaryOp op) (r2 X.K cls (binD o)) := by
  cases op <;> simp [bopOf] at e <;> subst e
  · exact ob_add
  · exact ob_sub
  · exact ob_mul
  · exact ob_mod
  · exact ob_pow
  · exact ob_fdv

/-! ### comparisons -/
section
variable {K : PySem.W.Frag} {ρ : List Addr} {H : Hp} {h : AH}
mutual
theorem toPy_ok (hr : HR K cls ρ H h) : ∀ (n : Nat) {d : D} {x : V} {p : PyData}, RD K ρ H d x → toPy h n d = some p → Dp K H x p
  | 0, _, _, _, _, e => by simp [toPy] at e
  | n + 1, .non, _, _, r, e => by simp [toPy] at e; subst e; rw [r.non_e]; exact .non
  | n + 1, .bl b, _, _, r, e => by simp [toPy] at e; subst e; rw [r.bl_e]; exact .bl b
  | n + 1, .int i, _, _, r, e => by simp [toPy] at e; subst e; rw [r.int_e]; exact .int i
  | n + 1, .str s, _, _, r, e => by simp [toPy] at e; subst e; rw [r.str_e]; exact .str _
  | n + 1, .fro ds, _, _, r, e => by simp [toPy] at e
  | n + 1, .tup ds, _, _, r, e => by
    obtain ⟨a, xs, rfl, hq, rq⟩ := r.tup_e
    rw [toPy] at e
    cases q : mapO (toPy h n) ds with
    | none => rw [q] at e; simp at e
    | some ps => rw [q] at e; simp at e; subst e; exact .tup hq (toPys_ok hr n rq q)
  | n + 1, .ref m, _, _, r, e => by
    rw [toPy] at e
    split at e
    · rename_i ds hg
      obtain ⟨a, xs, rfl, _, hq, rq⟩ := hr.lst (getL_at hg) r
      cases q : mapO (toPy h n) ds with
      | none => rw [q] at e; simp at e
      | some ps => rw [q] at e; simp at e; subst e; exact .lst (SqL.of hq) (toPys_ok hr n rq q)
    · cases e
theorem toPys_ok (hr : HR K cls ρ H h) : ∀ (n : Nat) {ds : List D} {xs : List V} {ps : List PyData}, RDs K ρ H ds xs → mapO (toPy h n) ds = some ps → DpAll K H xs ps
  | n, [], _, _, r, e => by
    rw [RDs] at r; subst r
    simp [mapO] at e; subst e; exact .nil
  | n, d :: ds, _, _, r, e => by
    rw [RDs] at r
    obtain ⟨x, xs, rfl, rx, rr⟩ := r
    rw [mapO] at e
    split at e
    · rename_i p hp
      split at e
      · rename_i ps hps
        cases e
        exact .cons (toPy_ok hr n rx hp) (toPys_ok hr n rr hps)
      · cases e
    · cases e
end
theorem toPys_len {f : D → Option PyData} : ∀ {ds : List D} {ps : List PyData}, mapO f ds = some ps → ps.length = ds.length
  | [], _, e => by simp [mapO] at e; subst e; rfl
  | d :: ds, _, e => by
    rw [mapO] at e
    split at e
    · split at e
      · rename_i hps; cases e; simp [toPys_len hps]
      · cases e
    · cases e
theorem dec_V_int {i j : Int} : decide (V.int i = V.int j) = decide (i = j) := by simp
theorem dec_V_bl {i j : Bool} : decide (V.bl i = V.bl j) = decide (i = j) := by simp
theorem dec_V_str {s t : Sg} : decide (V.str (S s) = V.str (S t)) = decide (s = t) := by
  rw [decide_eq_decide]
  constructor
  · intro e; injection e with e; exact S_inj e
  · intro e; rw [e]
theorem eqD_ok (hr : HR K cls ρ H h) {a b : D} {x y : V} {r : Bool} (ra : RD K ρ H a x) (rb : RD K ρ H b y) (e : eqD h a b = some r) : (scal x y = true ∧ r = decide (x = y)) ∨ ∃ p q, Dp K H x p ∧ Dp K H y q ∧ SeqAt.shaped p = true ∧ SeqAt.shaped q = true ∧ r = PyData.eqv p q := by
  unfold eqD at e
  split at e
  · cases e; rw [ra.int_e, rb.int_e]; exact .inl ⟨rfl, dec_V_int.symm⟩
  · cases e; rw [ra.str_e, rb.str_e]; exact .inl ⟨rfl, dec_V_str.symm⟩
  · cases e; rw [ra.bl_e, rb.bl_e]; exact .inl ⟨rfl, dec_V_bl.symm⟩
  · cases e; rw [ra.non_e, rb.non_e]; exact .inl ⟨rfl, by simp⟩
  · cases e; rw [ra.non_e, rb.int_e]; exact .inl ⟨rfl, by simp⟩
  · cases e; rw [ra.int_e, rb.non_e]; exact .inl ⟨rfl, by simp⟩
  · cases e; rw [ra.non_e, rb.bl_e]; exact .inl ⟨rfl, by simp⟩
  · cases e; rw [ra.bl_e, rb.non_e]; exact .inl ⟨rfl, by simp⟩
  · cases e; rw [ra.non_e, rb.str_e]; exact .inl ⟨rfl, by simp⟩
  · cases e; rw [ra.str_e, rb.non_e]; exact .inl ⟨rfl, by simp⟩
  · cases e; rw [ra.int_e, rb.str_e]; exact .inl ⟨rfl, by simp⟩
  · cases e; rw [ra.str_e, rb.int_e]; exact .inl ⟨rfl, by simp⟩
  · cases e; rw [ra.bl_e, rb.str_e]; exact .inl ⟨rfl, by simp⟩
  · cases e; rw [ra.str_e, rb.bl_e]; exact .inl ⟨rfl, by simp⟩
  · unfold deepEq at e
    split at e
    · rename_i p q hp hq
      split at e
      · rename_i hs
        rw [Bool.and_eq_true] at hs
        cases e
        exact .inr ⟨p, q, toPy_ok hr _ ra hp, toPy_ok hr _ rb hq, hs.1, hs.2, rfl⟩
      · cases e
    · cases e
theorem flatD_V {d : D} {x : V} (r : RD K ρ H d x) (f : flatD d = true) : flatV x = true := by
  cases d with
  | non => rw [r.non_e]; rfl
  | bl _ => rw [r.bl_e]; rfl
  | int _ => rw [r.int_e]; rfl
  | str _ => rw [r.str_e]; rfl
  | tup _ => cases f
  | fro _ => cases f
  | ref _ => cases f
theorem flatD_Vs : ∀ {ds : List D} {xs : List V}, RDs K ρ H ds xs → ds.all flatD = true → xs.all flatV = true
  | [], _, r, _ => by rw [RDs] at r; subst r; rfl
  | d :: ds, _, r, f => by
    rw [RDs] at r
    obtain ⟨x, xs, rfl, rx, rr⟩ := r
    simp only [List.all_cons, Bool.and_eq_true] at f ⊢
    exact ⟨flatD_V rx f.1, flatD_Vs rr f.2⟩
theorem S_beq {s t : Sg} : ((S s : Str) == S t) = (s == t) := by
  rw [Bool.eq_iff_iff]
  simp only [beq_iff_eq]
  exact ⟨S_inj, fun e => by rw [e]⟩
theorem flatEq_V {d e : D} {x y : V} (r : RD K ρ H d x) (s : RD K ρ H e y) (f : flatD d = true) (g : flatD e = true) : flatEq d e = eqV x y := by
  cases d <;> cases e <;> first
    | exact absurd f Bool.false_ne_true
    | exact absurd g Bool.false_ne_true
    | (first | rw [r.non_e] | rw [r.bl_e] | rw [r.int_e] | rw [r.str_e]) <;> (first | rw [s.non_e] | rw [s.bl_e] | rw [s.int_e] | rw [s.str_e]) <;> first | rfl | exact S_beq.symm
theorem flatIn_V {e : D} {y : V} (s : RD K ρ H e y) (g : flatD e = true) : ∀ {ds : List D} {xs : List V}, RDs K ρ H ds xs → ds.all flatD = true → (ds.any fun z => flatEq z e) = inV y xs
  | [], _, r, _ => by rw [RDs] at r; subst r; rfl
  | d :: ds, _, r, f => by
    rw [RDs] at r
    obtain ⟨x, xs, rfl, rx, rr⟩ := r
    simp only [List.all_cons, Bool.and_eq_true] at f
    simp only [List.any_cons, inV]
    rw [flatEq_V rx s f.1 g, flatIn_V s g rr f.2]
    rfl
theorem keyD_ok {k : DK} {d : D} {x : V} (r : RD K ρ H d x) (e : keyD d = some k) : x = kV (kD k) := by
  cases d <;> simp [keyD] at e
  · subst e; rw [r.int_e]; rfl
  · subst e; rw [r.str_e]; rfl
theorem KVs.look : ∀ {kvs : List (DK × D)} {ks : List (Key × V)} (k : DK), KVs K ρ H kvs ks → (match lookK kvs k with | some d => ∃ v, valV ks (kD k) = some v ∧ RD K ρ H d v | none => valV ks (kD k) = none)
  | _, _, k, .nil => by simp [lookK, valV]
  | p :: r, q :: s, k, .cons h t => by
    have ih := KVs.look k t
    by_cases e : p.1 = k
    · have e2 : q.1 = kD k := by rw [← h.1, e]
      have e3 : lookK (p :: r) k = some p.2 := by simp [lookK, List.find?_cons, e]
      rw [e3]
      exact ⟨q.2, valV_pos e2, h.2⟩
    · have e2 : ¬ q.1 = kD k := fun z => e (kD_inj (h.1.trans z))
      have e3 : lookK (p :: r) k = lookK r k := by simp [lookK, List.find?_cons, e]
      rw [e3, valV_neg e2]
      exact ih
end
theorem valV_is {ks : List (Key × V)} {K : PySem.W.Frag} {ρ : List Addr} {H : Hp} {kvs : List (DK × D)} (k : DK) (r : KVs K ρ H kvs ks) : (lookK kvs k).isSome = (valV ks (kD k)).isSome := by
  have := KVs.look k r
  cases e : lookK kvs k with
  | none => rw [e] at this; rw [this]; rfl
  | some d => rw [e] at this; obtain ⟨v, h, _⟩ := this; rw [h]; rfl
def rDIn : R2 := fun x y H Q => ∃ a o, y = .ref a ∧ DGet H a x o ∧ Q (.bl o.isSome) H
def rDNotIn : R2 := fun x y H Q => ∃ a o, y = .ref a ∧ DGet H a x o ∧ Q (.bl (!o.isSome)) H
theorem op_dIn (hu : X.A.units + 1 < cLine) : OpR X (compareOp .In) rDIn := by
  intro pins s σ H x y v u Q I rx ry h
  obtain ⟨a, o, rfl, g, q⟩ := h
  obtain rfl : u = Value.ref a := ry
  exact d_in hu I g rx fun s3 I3 => ⟨.bl o.isSome, H, I3, rfl, q⟩
theorem op_dNotIn (hu : X.A.units + 1 < cLine) : OpR X (compareOp .NotIn) rDNotIn := by
  intro pins s σ H x y v u Q I rx ry h
  obtain ⟨a, o, rfl, g, q⟩ := h
  obtain rfl : u = Value.ref a := ry
  exact d_notIn hu I g rx fun s3 I3 => ⟨.bl (!o.isSome), H, I3, rfl, q⟩
/-- a Bool that was reckoned -/
theorem fin_o {K : PySem.W.Frag} {ρ : List Addr} {H : Hp} {h : AH} {Q : VK} {o : Option Bool} {f : Bool → Bool} (hr : HR K cls ρ H h) (hf : FinG K cls (RD K) ρ H Q (ofO (o.map fun x => D.bl (f x)) h)) : ∃ r, o = some r ∧ Q (.bl (f r)) H := by
  cases o with
  | none => exact hf.elim
  | some r => exact ⟨r, rfl, FinG.self hf RD.bl hr⟩
theorem oc_eq (hu : X.A.units + 64 < cLine) : OpR X (compareOp .Eq) (r2 X.K cls (cmpD .eq)) := by
  refine OpR.imp (OpR.or op_eq (op_eqD hu)) fun x y H Q hq => ?_
  obtain ⟨ρ, h, a, b, hr, rx, ry, hf⟩ := hq
  obtain ⟨r, e, q⟩ := fin_o (f := id) hr hf
  rcases eqD_ok hr rx ry e with ⟨h1, h2⟩ | ⟨p, p', h1, h2, h3, h4, h5⟩
  · exact .inl ⟨h1, by rw [← h2]; exact q⟩
  · exact .inr ⟨p, p', h1, h2, h3, h4, by rw [← h5]; exact q⟩
theorem oc_ne (hu : X.A.units + 64 < cLine) : OpR X (compareOp .NotEq) (r2 X.K cls (cmpD .ne)) := by
  refine OpR.imp (OpR.or op_ne (op_neD hu)) fun x y H Q hq => ?_
  obtain ⟨ρ, h, a, b, hr, rx, ry, hf⟩ := hq
  obtain ⟨r, e, q⟩ := fin_o (f := fun x => !x) hr hf
  rcases eqD_ok hr rx ry e with ⟨h1, h2⟩ | ⟨p, p', h1, h2, h3, h4, h5⟩
  · exact .inl ⟨h1, by rw [← h2]; exact q⟩
  · exact .inr ⟨p, p', h1, h2, h3, h4, by rw [← h5]; exact q⟩
theorem inD_ok {K : PySem.W.Frag} {ρ : List Addr} {H : Hp} {h : AH} (hr : HR K cls ρ H h) {a b : D} {x y : V} {r : Bool} (ra : RD K ρ H a x) (rb : RD K ρ H b y) (e : inD h a b = some r) :
    (∃ p xs, y = .ref p ∧ (SqL K H p xs ∨ SqT K H p xs) ∧ flatV x = true ∧ xs.all flatV = true ∧ r = inV x xs) ∨ (∃ d ds, Dp K H x d ∧ Dp K H y (.list ds) ∧ SeqAt.shaped d = true ∧ SeqAt.shaped (.list ds) = true ∧ r = ds.any fun z => PyData.eqv z d) ∨
      (∃ p o, y = .ref p ∧ DGet H p x o ∧ r = o.isSome) ∨ ∃ c z, x = .str ⟨#[c]⟩ ∧ y = .str z ∧ r = decide (c ∈ z.cps.toList) := by
  unfold inD at e
  split at e
  · split at e
    · rename_i ds hc
      rw [Bool.and_eq_true] at hc
      cases e
      obtain ⟨p, xs, rfl, hp, rp⟩ := rb.tup_e
      exact .inl ⟨p, xs, rfl, .inr hp, flatD_V ra hc.1, flatD_Vs rp hc.2, flatIn_V ra hc.1 rp hc.2⟩
    · cases e
  · split at e
    · rename_i n ds hn
      obtain ⟨p, xs, rfl, _, hp, rp⟩ := hr.lst hn rb
      split at e
      · rename_i hc
        rw [Bool.and_eq_true] at hc
        cases e
        exact .inl ⟨p, xs, rfl, .inl (SqL.of hp), flatD_V ra hc.1, flatD_Vs rp hc.2, flatIn_V ra hc.1 rp hc.2⟩
      · split at e
        · rename_i q qs hq hqs
          split at e
          · rename_i hs
            rw [Bool.and_eq_true] at hs
            cases e
            exact .inr (.inl ⟨q, qs, toPy_ok hr _ ra hq, .lst (SqL.of hp) (toPys_ok hr _ rp hqs), hs.1, hs.2, rfl⟩)
          · cases e
        · cases e
    · rename_i n kvs hn
      obtain ⟨p, ks, rfl, _, hp, rp⟩ := hr.dic hn rb
      split at e
      · rename_i k hk
        cases e
        refine .inr (.inr (.inl ⟨p, valV ks (kD k), rfl, ?_, valV_is k rp⟩))
        rw [keyD_ok ra hk]
        exact DGet.k hp
      · cases e
    · cases e
  · split at e
    · rename_i s _ c
      cases e
      refine .inr (.inr (.inr ⟨c, S s, ?_, rb.str_e, by rw [S_cps]⟩))
      rw [ra.str_e]
      rfl
    · cases e
  · cases e
theorem oc_in (hu : X.A.units + 66 < cLine) : OpR X (compareOp .In) (r2 X.K cls (cmpD .in_)) := by
  refine OpR.imp (OpR.or op_in_seq (OpR.or (op_inD (by omega)) (OpR.or (op_dIn (by omega)) op_in_sign))) fun x y H Q hq => ?_
  obtain ⟨ρ, h, a, b, hr, rx, ry, hf⟩ := hq
  obtain ⟨r, e, q⟩ := fin_o (f := id) hr hf
  rcases inD_ok hr rx ry e with ⟨p, xs, h1, h2, h3, h4, h5⟩ | ⟨d, ds, h1, h2, h3, h4, h5⟩ | ⟨p, o, h1, h2, h3⟩ | ⟨c, z, h1, h2, h3⟩
  · exact .inl ⟨p, xs, h1, h2, h3, h4, by simpa [h5] using q⟩
  · exact .inr (.inl ⟨d, ds, h1, h2, h3, h4, by rw [← h5]; exact q⟩)
  · exact .inr (.inr (.inl ⟨p, o, h1, h2, by rw [← h3]; exact q⟩))
  · exact .inr (.inr (.inr ⟨c, z, h1, h2, by rw [← h3]; exact q⟩))
theorem oc_nin (hu : X.A.units + 66 < cLine) : OpR X (compareOp .NotIn) (r2 X.K cls (cmpD .nin)) := by
  refine OpR.imp (OpR.or op_notIn_seq (OpR.or (op_notInD (by omega)) (OpR.or (op_dNotIn (by omega)) op_notIn_sign))) fun x y H Q hq => ?_
  obtain ⟨ρ, h, a, b, hr, rx, ry, hf⟩ := hq
  obtain ⟨r, e, q⟩ := fin_o (f := fun x => !x) hr hf
  rcases inD_ok hr rx ry e with ⟨p, xs, h1, h2, h3, h4, h5⟩ | ⟨d, ds, h1, h2, h3, h4, h5⟩ | ⟨p, o, h1, h2, h3⟩ | ⟨c, z, h1, h2, h3⟩
  · exact .inl ⟨p, xs, h1, h2, h3, h4, by simpa [h5] using q⟩
  · exact .inr (.inl ⟨d, ds, h1, h2, h3, h4, by rw [← h5]; exact q⟩)
  · exact .inr (.inr (.inl ⟨p, o, h1, h2, by rw [← h3]; exact q⟩))
  · exact .inr (.inr (.inr ⟨c, z, h1, h2, by rw [← h3]; exact q⟩))
theorem oc_lt : OpR X (compareOp .Lt) (r2 X.K cls (cmpD .lt)) := by
  refine OpR.imp op_lt fun x y H Q hq => ?_
  obtain ⟨ρ, h, a, b, hr, rx, ry, hf⟩ := hq
  unfold cmpD at hf
  simp only at hf
  split at hf
  · exact ⟨_, _, rx.int_e, ry.int_e, hf.self RD.bl hr⟩
  · exact hf.elim
theorem oc_le : OpR X (compareOp .LtE) (r2 X.K cls (cmpD .le)) := by
  refine OpR.imp op_le fun x y H Q hq => ?_
  obtain ⟨ρ, h, a, b, hr, rx, ry, hf⟩ := hq
  unfold cmpD at hf
  simp only at hf
  split at hf
  · exact ⟨_, _, rx.int_e, ry.int_e, hf.self RD.bl hr⟩
  · exact hf.elim
theorem oc_gt : OpR X (compareOp .Gt) (r2 X.K cls (cmpD .gt)) := by
  refine OpR.imp op_gt fun x y H Q hq => ?_
  obtain ⟨ρ, h, a, b, hr, rx, ry, hf⟩ := hq
  unfold cmpD at hf
  simp only at hf
  split at hf
  · exact ⟨_, _, rx.int_e, ry.int_e, hf.self RD.bl hr⟩
  · exact hf.elim
theorem oc_ge : OpR X (compareOp .GtE) (r2 X.K cls (cmpD .ge)) := by
  refine OpR.imp op_ge fun x y H Q hq => ?_
  obtain ⟨ρ, h, a, b, hr, rx, ry, hf⟩ := hq
  unfold cmpD at hf
  simp only at hf
  split at hf
  · exact ⟨_, _, rx.int_e, ry.int_e, hf.self RD.bl hr⟩
  · exact hf.elim
def copOf : CmpOp → Option Cop
  | .Eq => some .eq | .NotEq => some .ne | .Lt => some .lt | .LtE => some .le | .Gt => some .gt | .GtE => some .ge | .In => some .in_ | .NotIn => some .nin
  | _ => none
theorem oc_all {op : CmpOp} {o : Cop} (hu : X.A.units + 66 < cLine) (e : copOf op = some o) : OpR X (compareOp op) (r2 X.K cls (cmpD o)) := by
  cases op <;> simp [copOf] at e <;> subst e
  · exact oc_eq (by omega)
  · exact oc_ne (by omega)
  · exact oc_lt
  · exact oc_le
  · exact oc_gt
  · exact oc_ge
  · exact oc_in hu
  · exact oc_nin hu
end Rf

namespace Rf
open PySem PySem.Spec PyProof.Rows L2
variable {X : Cx} {cls : Nat → Option Addr}

section
variable {K : PySem.W.Frag} {ρ : List Addr} {H : Hp} {h : AH}
theorem RDs.empty {ds : List D} {xs : List V} (r : RDs K ρ H ds xs) : ds.isEmpty = xs.isEmpty := by
  cases ds with
  | nil => rw [RDs] at r; subst r; rfl
  | cons d ds => rw [RDs] at r; obtain ⟨x, xs, rfl, _, _⟩ := r; rfl
theorem KVs.empty {ds : List (DK × D)} {xs : List (Key × V)} (r : KVs K ρ H ds xs) : ds.isEmpty = xs.isEmpty := by
  cases r <;> rfl
theorem truD_ok (hr : HR K cls ρ H h) {d : D} {x : V} {b : Bool} (r : RD K ρ H d x) (e : truD h d = some b) : TruV K x H b := by
  unfold truD at e
  split at e
  · cases e; rw [r.non_e]; rfl
  · cases e; rw [r.bl_e]; rfl
  · cases e; rw [r.int_e]
    show _ = (_ != _)
    rw [bne, Bool.beq_eq_decide_eq, ← decide_not]
  · split at e
    · rename_i hl
      cases e; rw [r.str_e]
      refine ⟨by rw [S_len]; exact hl, ?_⟩
      rw [S_len, bne, Bool.beq_eq_decide_eq, ← decide_not]
      rw [decide_eq_decide]
      constructor
      · intro h1 h2; exact h1 (by omega)
      · intro h1 h2; exact h1 (by omega)
    · cases e
  · cases e
    obtain ⟨a, xs, rfl, hq, rq⟩ := r.tup_e
    exact .inr (.inl ⟨xs, hq, by rw [rq.empty]⟩)
  · cases e
    obtain ⟨a, xs, rfl, hq, rq⟩ := r.fro_e
    exact .inl ⟨xs, hq.sq, by rw [rq.empty]⟩
  · split at e
    · rename_i hn
      cases e
      obtain ⟨p, xs, rfl, _, hp, rp⟩ := hr.lst hn r
      exact .inl ⟨xs, SqL.of hp, by rw [rp.empty]⟩
    · rename_i hn
      cases e
      obtain ⟨p, xs, rfl, _, hp, rp⟩ := hr.dic hn r
      exact .inr (.inr ⟨xs, hp, by rw [rp.empty]⟩)
    · cases e
end

/-! ### subscripts -/
def rIxD : R2 := fun x y H Q => ∃ a v, x = .ref a ∧ DGet H a y (some v) ∧ Q v H
theorem ix_dict (hu : X.A.units + 1 < cLine) : IxR X rIxD := by
  intro value slice pins s σ H x y v u Q I rx ry ⟨a, z, ex, g, q⟩ hs
  subst ex
  obtain rfl : v = Value.ref a := rx
  exact tail_any (dict_typeIs I g) PySem.F.slot_dict_getitem.lookup (d_getItem hu I g ry fun w' s3 I3 rw' => ⟨z, H, I3, rw', q⟩) hs
theorem atD_ok {K : PySem.W.Frag} {ρ : List Addr} {H : Hp} {ds : List D} {xs : List V} {k : Int} {d : D} (r : RDs K ρ H ds xs) (e : atD ds k = some d) : ∃ x, atI xs k = some x ∧ RD K ρ H d x := by
  unfold atD at e
  cases q : ixD ds.length k with
  | none => rw [q] at e; cases e
  | some j =>
    rw [q] at e
    obtain ⟨x, h1, h2⟩ := r.get e
    refine ⟨x, ?_, h2⟩
    have : ixN xs.length k = some j := by rw [r.length]; exact q
    unfold atI
    rw [this]
    exact h1
theorem ofO_some {α : Type} {K : PySem.W.Frag} {β : Type} {R : List Addr → Hp → α → β → Prop} {ρ : List Addr} {H : Hp} {h : AH} {Q : β → Hp → Prop} {o : Option α} (hf : FinG K cls R ρ H Q (ofO o h)) : ∃ d, o = some d ∧ FinG K cls R ρ H Q (.ok d h) := by
  cases o with
  | none => exact hf.elim
  | some d => exact ⟨d, rfl, hf⟩
theorem ox_all (hu : X.A.units + 1 < cLine) : IxR X (r2 X.K cls idxD) := by
  refine IxR.imp (IxR.or ix_list (IxR.or ix_tup (IxR.or ix_str (ix_dict hu)))) fun x y H Q hq => ?_
  obtain ⟨ρ, h, a, b, hr, rx, ry, hf⟩ := hq
  unfold idxD at hf
  split at hf
  · split at hf
    · obtain ⟨d, e, hf⟩ := ofO_some hf
      obtain ⟨p, xs, rfl, hp, rp⟩ := rx.tup_e
      obtain ⟨z, h1, h2⟩ := atD_ok rp e
      exact .inr (.inl ⟨p, xs, _, z, rfl, ry.int_e, hp, h1, hf.self h2 hr⟩)
    · exact hf.elim
  · split at hf
    · obtain ⟨d, e, hf⟩ := ofO_some hf
      obtain ⟨p, xs, rfl, hp, rp⟩ := rx.fro_e
      obtain ⟨z, h1, h2⟩ := atD_ok rp e
      exact .inl ⟨p, xs, _, z, rfl, ry.int_e, hp.sq, h1, hf.self h2 hr⟩
    · exact hf.elim
  · split at hf
    · split at hf
      · rename_i s _ k hl
        obtain ⟨d, e, hf⟩ := ofO_some hf
        obtain ⟨c, e1, e2⟩ := Option.map_eq_some_iff.mp e
        subst e2
        refine .inr (.inr (.inl ⟨S s, k, c, rx.str_e, ry.int_e, by rw [S_len]; exact hl, ?_, hf.self RD.str hr⟩))
        rw [S_cps]
        exact e1
      · exact hf.elim
    · exact hf.elim
  · split at hf
    · rename_i hn
      split at hf
      · obtain ⟨d, e, hf⟩ := ofO_some hf
        obtain ⟨p, xs, rfl, _, hp, rp⟩ := hr.lst hn rx
        obtain ⟨z, h1, h2⟩ := atD_ok rp e
        exact .inl ⟨p, xs, _, z, rfl, ry.int_e, SqL.of hp, h1, hf.self h2 hr⟩
      · exact hf.elim
    · rename_i hn
      split at hf
      · rename_i hk
        obtain ⟨d, e, hf⟩ := ofO_some hf
        obtain ⟨p, ks, rfl, _, hp, rp⟩ := hr.dic hn rx
        have hl := KVs.look (by assumption) rp
        rw [e] at hl
        obtain ⟨z, h1, h2⟩ := hl
        refine .inr (.inr (.inr ⟨p, z, rfl, ?_, hf.self h2 hr⟩))
        rw [keyD_ok ry hk, ← h1]
        exact DGet.k hp
      · exact hf.elim
    · exact hf.elim
  · exact hf.elim

/-! ### slices -/
def r3 (K : PySem.W.Frag) (cls : Nat → Option Addr) (f : D → Option Int → Option Int → AH → Rs D) : V → Option Int → Option Int → Hp → VK → Prop := fun x l u H Q => ∃ ρ h a, HR K cls ρ H h ∧ RD K ρ H a x ∧ FinG K cls (RD K) ρ H Q (f a l u h)
theorem SlR.imp {r r' : V → Option Int → Option Int → Hp → VK → Prop} (h : SlR X r) (i : ∀ x l u H Q, r' x l u H Q → r x l u H Q) : SlR X r' := fun pins s σ H x v vl vu lo hi sl Q I rx hs pl pu q => h pins s σ H x v vl vu lo hi sl Q I rx hs pl pu (i _ _ _ _ _ q)
theorem cutD_ok {K : PySem.W.Frag} {ρ : List Addr} {H : Hp} {ds : List D} {xs : List V} (r : RDs K ρ H ds xs) (l u : Option Int) : RDs K ρ H (cutD ds l u) (cutV xs l u) := by
  unfold cutD cutV
  rw [show xs.length = ds.length from r.length]
  exact (r.drop _).take _
theorem cutD_whole {ds : List D} {l u : Option Int} (h : HT.sIx ds.length 0 l = 0 ∧ HT.sIx ds.length ds.length u = ds.length) : cutD ds l u = ds := by
  unfold cutD
  rw [show sx ds.length 0 l = 0 from h.1, show sx ds.length ds.length u = ds.length from h.2]
  simp
theorem os_all : SlR X (r3 X.K cls slcD) := by
  refine SlR.imp (SlR.or sl_list (SlR.or sl_tupA sl_str)) fun x l u H Q hq => ?_
  obtain ⟨ρ, h, a, hr, rx, hf⟩ := hq
  unfold slcD at hf
  split at hf
  · obtain ⟨p, xs, rfl, hp, rp⟩ := rx.tup_e
    refine .inr (.inl ⟨p, xs, rfl, hp, fun hw => ?_, fun _ => ?_⟩)
    · rw [rp.length] at hw
      rw [cutD_whole hw] at hf
      exact hf.self (RD.tup hp rp) hr
    · exact fin_tup hr (cutD_ok rp l u) hf
  · split at hf
    · rename_i s hl
      refine .inr (.inr ⟨S s, rx.str_e, by rw [S_len]; exact hl, ?_⟩)
      have e : S (cutD s l u) = cutS (S s) l u := by
        show _ = (⟨_⟩ : Str)
        rw [S_cps, S_len]
        rfl
      rw [← e]
      exact hf.self RD.str hr
    · exact hf.elim
  · split at hf
    · rename_i hg
      obtain ⟨p, xs, rfl, _, hp, rp⟩ := hr.lst (getL_at hg) rx
      exact .inl ⟨p, xs, rfl, SqL.of hp, fin_alloc_lst hr (cutD_ok rp l u) hf⟩
    · exact hf.elim
  · exact hf.elim

/-! ### built-in functions by values -/
def rA (K : PySem.W.Frag) (cls : Nat → Option Addr) (f : List D → AH → Rs D) : List V → Hp → VK → Prop := fun xs H Q => ∃ ρ h as, HR K cls ρ H h ∧ RDs K ρ H as xs ∧ FinG K cls (RD K) ρ H Q (f as h)
section
variable {K : PySem.W.Frag} {ρ : List Addr} {H : Hp} {h : AH}
theorem RDs.one {d : D} {xs : List V} (r : RDs K ρ H [d] xs) : ∃ x, xs = [x] ∧ RD K ρ H d x := by
  rw [RDs] at r
  obtain ⟨x, r, rfl, h1, h2⟩ := r
  rw [RDs] at h2
  subst h2
  exact ⟨x, rfl, h1⟩
theorem RDs.two {d e : D} {xs : List V} (r : RDs K ρ H [d, e] xs) : ∃ x y, xs = [x, y] ∧ RD K ρ H d x ∧ RD K ρ H e y := by
  rw [RDs] at r
  obtain ⟨x, r, rfl, h1, h2⟩ := r
  obtain ⟨y, rfl, h3⟩ := h2.one
  exact ⟨x, y, rfl, h1, h3⟩
theorem intsO_ok : ∀ {ds : List D} {xs : List V} {ns : List Int}, RDs K ρ H ds xs → intsO ds = some ns → xs = ns.map V.int
  | [], _, _, r, e => by rw [RDs] at r; subst r; simp [intsO, mapO] at e; subst e; rfl
  | d :: ds, _, _, r, e => by
    rw [RDs] at r
    obtain ⟨x, xs, rfl, rx, rr⟩ := r
    unfold intsO at e
    rw [mapO] at e
    cases d <;> simp at e
    split at e
    · rename_i ms hm
      simp at e
      subst e
      rw [rx.int_e, intsO_ok rr hm]
      rfl
    · cases e
end
theorem maxL_mem : ∀ (m : Int) (ns : List Int), maxL m ns ∈ m :: ns ∧ ∀ y ∈ m :: ns, y ≤ maxL m ns
  | m, [] => by simp [maxL]
  | m, x :: xs => by
    have ih := maxL_mem (if x > m then x else m) xs
    rw [maxL]
    generalize maxL (if x > m then x else m) xs = z at *
    refine ⟨?_, fun y hy => ?_⟩
    · rcases List.mem_cons.mp ih.1 with e | e
      · rw [e]; split <;> simp
      · exact List.mem_cons_of_mem _ (List.mem_cons_of_mem _ e)
    · have h0 := ih.2 _ (List.mem_cons_self ..)
      rcases List.mem_cons.mp hy with e | hy
      · rw [e]; split at h0 <;> omega
      · rcases List.mem_cons.mp hy with e | hy
        · rw [e]; split at h0 <;> omega
        · exact ih.2 y (List.mem_cons_of_mem _ hy)
theorem minL_mem : ∀ (m : Int) (ns : List Int), minL m ns ∈ m :: ns ∧ ∀ y ∈ m :: ns, minL m ns ≤ y
  | m, [] => by simp [minL]
  | m, x :: xs => by
    have ih := minL_mem (if x < m then x else m) xs
    rw [minL]
    generalize minL (if x < m then x else m) xs = z at *
    refine ⟨?_, fun y hy => ?_⟩
    · rcases List.mem_cons.mp ih.1 with e | e
      · rw [e]; split <;> simp
      · exact List.mem_cons_of_mem _ (List.mem_cons_of_mem _ e)
    · have h0 := ih.2 _ (List.mem_cons_self ..)
      rcases List.mem_cons.mp hy with e | hy
      · rw [e]; split at h0 <;> omega
      · rcases List.mem_cons.mp hy with e | hy
        · rw [e]; split at h0 <;> omega
        · exact ih.2 y (List.mem_cons_of_mem _ hy)
theorem cb_len : CallR X (.builtin "len") (rA X.K cls (bltD .len)) := by
  refine CallR.imp (CallR.or call_len_seq (CallR.or call_len_str call_lenD)) fun xs H Q hq => ?_
  obtain ⟨ρ, h, as, hr, ra, hf⟩ := hq
  unfold bltD at hf
  split at hf <;> first
    | (cases ‹Blt.len = _›; done)
    | exact hf.elim
    | skip
  · obtain ⟨x, rfl, rx⟩ := ra.one
    obtain ⟨p, xs, rfl, hp, rp⟩ := rx.tup_e
    refine .inl ⟨p, xs, rfl, .inr hp, ?_⟩
    rw [rp.length]
    exact hf.self RD.int hr
  · obtain ⟨x, rfl, rx⟩ := ra.one
    obtain ⟨p, xs, rfl, hp, rp⟩ := rx.fro_e
    refine .inl ⟨p, xs, rfl, .inl hp.sq, ?_⟩
    rw [rp.length]
    exact hf.self RD.int hr
  · split at hf
    · rename_i s _ hl
      obtain ⟨x, rfl, rx⟩ := ra.one
      refine .inr (.inl ⟨S s, by rw [rx.str_e], by rw [S_len]; exact hl, ?_⟩)
      rw [S_len]
      exact hf.self RD.int hr
    · exact hf.elim
  · obtain ⟨x, rfl, rx⟩ := ra.one
    split at hf
    · rename_i hn
      obtain ⟨p, xs, rfl, _, hp, rp⟩ := hr.lst hn rx
      refine .inl ⟨p, xs, rfl, .inl (SqL.of hp), ?_⟩
      rw [rp.length]
      exact hf.self RD.int hr
    · rename_i hn
      obtain ⟨p, xs, rfl, _, hp, rp⟩ := hr.dic hn rx
      refine .inr (.inr ⟨p, xs, rfl, hp, ?_⟩)
      have e := Paired.length rp
      rw [← e]
      exact hf.self RD.int hr
    · exact hf.elim
theorem cb_abs : CallR X (.builtin "abs") (rA X.K cls (bltD .abs)) := by
  refine CallR.imp call_abs fun xs H Q hq => ?_
  obtain ⟨ρ, h, as, hr, ra, hf⟩ := hq
  unfold bltD at hf
  split at hf <;> first
    | (cases ‹Blt.abs = _›; done)
    | exact hf.elim
    | skip
  · obtain ⟨x, rfl, rx⟩ := ra.one
    exact ⟨_, by rw [rx.int_e], hf.self RD.int hr⟩
theorem cb_int : CallR X (.type "int") (rA X.K cls (bltD .int)) := by
  refine CallR.imp call_int1 fun xs H Q hq => ?_
  obtain ⟨ρ, h, as, hr, ra, hf⟩ := hq
  unfold bltD at hf
  split at hf <;> first
    | (cases ‹Blt.int = _›; done)
    | exact hf.elim
    | skip
  · obtain ⟨x, rfl, rx⟩ := ra.one
    exact .inl ⟨_, by rw [rx.int_e], hf.self RD.int hr⟩
  · obtain ⟨x, rfl, rx⟩ := ra.one
    exact .inr ⟨_, by rw [rx.bl_e], hf.self RD.int hr⟩
theorem cb_list : CallR X (.type "list") (rA X.K cls (bltD .list)) := by
  refine CallR.imp call_list_of fun xs H Q hq => ?_
  obtain ⟨ρ, h, as, hr, ra, hf⟩ := hq
  unfold bltD at hf
  split at hf <;> first
    | (cases ‹Blt.list = _›; done)
    | exact hf.elim
    | skip
  · obtain ⟨x, rfl, rx⟩ := ra.one
    obtain ⟨p, xs, rfl, hp, rp⟩ := rx.tup_e
    exact ⟨p, xs, rfl, .inr hp, fin_alloc_lst hr rp hf⟩
  · obtain ⟨x, rfl, rx⟩ := ra.one
    obtain ⟨p, xs, rfl, hp, rp⟩ := rx.fro_e
    exact ⟨p, xs, rfl, .inl hp.sq, fin_alloc_lst hr rp hf⟩
  · obtain ⟨x, rfl, rx⟩ := ra.one
    split at hf
    · rename_i hg
      obtain ⟨p, xs, rfl, _, hp, rp⟩ := hr.lst (getL_at hg) rx
      exact ⟨p, xs, rfl, .inl (SqL.of hp), fin_alloc_lst hr rp hf⟩
    · exact hf.elim
theorem cb_tuple : CallR X (.type "tuple") (rA X.K cls (bltD .tuple)) := by
  refine CallR.imp call_tuple_of fun xs H Q hq => ?_
  obtain ⟨ρ, h, as, hr, ra, hf⟩ := hq
  unfold bltD at hf
  split at hf <;> first
    | (cases ‹Blt.tuple = _›; done)
    | exact hf.elim
    | skip
  · obtain ⟨x, rfl, rx⟩ := ra.one
    obtain ⟨p, xs, rfl, hp, rp⟩ := rx.tup_e
    exact ⟨p, xs, rfl, .inr ⟨hp, hf.self (RD.tup hp rp) hr⟩⟩
  · obtain ⟨x, rfl, rx⟩ := ra.one
    split at hf
    · rename_i hg
      obtain ⟨p, xs, rfl, _, hp, rp⟩ := hr.lst (getL_at hg) rx
      exact ⟨p, xs, rfl, .inl ⟨SqL.of hp, fin_tup hr rp hf⟩⟩
    · exact hf.elim
theorem cb_sum (hc : X.calm = true) : CallR X (.builtin "sum") (rA X.K cls (bltD .sum)) := by
  refine CallR.imp (cr_sum hc) fun xs H Q hq => ?_
  obtain ⟨ρ, h, as, hr, ra, hf⟩ := hq
  unfold bltD at hf
  split at hf <;> first
    | (cases ‹Blt.sum = _›; done)
    | exact hf.elim
    | skip
  · obtain ⟨x, rfl, rx⟩ := ra.one
    split at hf
    · rename_i hg
      split at hf
      · rename_i ns hn
        obtain ⟨p, xs, rfl, _, hp, rp⟩ := hr.lst (getL_at hg) rx
        exact ⟨p, ns, rfl, SqL.of (by rw [← intsO_ok rp hn]; exact hp), hf.self RD.int hr⟩
      · exact hf.elim
    · exact hf.elim
theorem cb_max (hc : X.calm = true) : CallR X (.builtin "max") (rA X.K cls (bltD .max)) := by
  refine CallR.imp (cr_max hc) fun xs H Q hq => ?_
  obtain ⟨ρ, h, as, hr, ra, hf⟩ := hq
  unfold bltD at hf
  split at hf <;> first
    | (cases ‹Blt.max = _›; done)
    | exact hf.elim
    | skip
  · obtain ⟨x, rfl, rx⟩ := ra.one
    split at hf
    · rename_i hg
      split at hf
      · rename_i m ns hn
        obtain ⟨p, xs, rfl, _, hp, rp⟩ := hr.lst (getL_at hg) rx
        refine ⟨p, m :: ns, rfl, SqL.of (by rw [← intsO_ok rp hn]; exact hp), by simp, fun k hk hm => ?_⟩
        have e := maxL_mem m ns
        have : k = maxL m ns := Int.le_antisymm (e.2 k hk) (hm _ e.1)
        rw [this]
        exact hf.self RD.int hr
      · exact hf.elim
    · exact hf.elim
theorem cb_min (hc : X.calm = true) : CallR X (.builtin "min") (rA X.K cls (bltD .min)) := by
  refine CallR.imp (cr_min hc) fun xs H Q hq => ?_
  obtain ⟨ρ, h, as, hr, ra, hf⟩ := hq
  unfold bltD at hf
  split at hf <;> first
    | (cases ‹Blt.min = _›; done)
    | exact hf.elim
    | skip
  · obtain ⟨x, rfl, rx⟩ := ra.one
    split at hf
    · rename_i hg
      split at hf
      · rename_i m ns hn
        obtain ⟨p, xs, rfl, _, hp, rp⟩ := hr.lst (getL_at hg) rx
        refine ⟨p, m :: ns, rfl, SqL.of (by rw [← intsO_ok rp hn]; exact hp), by simp, fun k hk hm => ?_⟩
        have e := minL_mem m ns
        have : k = minL m ns := Int.le_antisymm (hm _ e.1) (e.2 k hk)
        rw [this]
        exact hf.self RD.int hr
      · exact hf.elim
    · exact hf.elim
theorem cb_max2 (hc : X.calm = true) : CallR X (.builtin "max") (rA X.K cls (bltD .max2)) := by
  refine CallR.imp (call_max2 hc) fun xs H Q hq => ?_
  obtain ⟨ρ, h, as, hr, ra, hf⟩ := hq
  unfold bltD at hf
  split at hf <;> first
    | (cases ‹Blt.max2 = _›; done)
    | exact hf.elim
    | skip
  · obtain ⟨x, y, rfl, rx, ry⟩ := ra.two
    exact ⟨_, _, by rw [rx.int_e, ry.int_e], hf.self RD.int hr⟩
theorem cb_min2 (hc : X.calm = true) : CallR X (.builtin "min") (rA X.K cls (bltD .min2)) := by
  refine CallR.imp (call_min2 hc) fun xs H Q hq => ?_
  obtain ⟨ρ, h, as, hr, ra, hf⟩ := hq
  unfold bltD at hf
  split at hf <;> first
    | (cases ‹Blt.min2 = _›; done)
    | exact hf.elim
    | skip
  · obtain ⟨x, y, rfl, rx, ry⟩ := ra.two
    exact ⟨_, _, by rw [rx.int_e, ry.int_e], hf.self RD.int hr⟩
/-! ### isinstance -/
def tyName : Ty → String
  | .int => "int" | .bool => "bool" | .str => "str" | .tuple => "tuple" | .list => "list"
theorem sqT_ty {K : PySem.W.Frag} {H : Hp} {a : Addr} {xs : List V} (h : SqT K H a xs) : TyX K H (.ref a) (.type "tuple") := by
  rcases h with (h | ⟨o, h⟩) | ⟨o, its, n, h1, h2, _⟩
  · exact .base (.tup h)
  · exact .fTuple h
  · exact .kTuple h1 h2
theorem kit_ok {K : PySem.W.Frag} {ρ : List Addr} {H : Hp} {h : AH} (hr : HR K cls ρ H h) {t : Ty} {d : D} {x : V} {b : Bool} (r : RD K ρ H d x) (e : isD h t d = some b) :
    ∃ T, TyX K H x T ∧ PySem.W.kitOne K T (.type (tyName t)) = some b := by
  unfold isD at e
  split at e
  · rw [r.non_e]; refine ⟨_, .base .non, ?_⟩; rw [← e]; cases t <;> exact kit_ty (by decide +kernel)
  · rw [r.bl_e]; refine ⟨_, .base (.bl _), ?_⟩; rw [← e]; cases t <;> exact kit_ty (by decide +kernel)
  · rw [r.int_e]; refine ⟨_, .base (.int _), ?_⟩; rw [← e]; cases t <;> exact kit_ty (by decide +kernel)
  · rw [r.str_e]; refine ⟨_, .base (.str _), ?_⟩; rw [← e]; cases t <;> exact kit_ty (by decide +kernel)
  · obtain ⟨a, xs, rfl, hq, _⟩ := r.tup_e
    refine ⟨_, sqT_ty hq, ?_⟩; rw [← e]; cases t <;> exact kit_ty (by decide +kernel)
  · cases e
  · split at e
    · rename_i hn
      obtain ⟨a, xs, rfl, _, hq, _⟩ := hr.lst hn r
      refine ⟨_, .base (.lst hq), ?_⟩; rw [← e]; cases t <;> exact kit_ty (by decide +kernel)
    · rename_i hn
      obtain ⟨a, xs, rfl, _, hq, _⟩ := hr.dic hn r
      refine ⟨_, .base (.dK hq), ?_⟩; rw [← e]; cases t <;> exact kit_ty (by decide +kernel)
    · cases e
theorem cb_isi (t : Ty) : CallR X (.builtin "isinstance") (fun xs H Q => ∃ ρ h d x, HR X.K cls ρ H h ∧ RD X.K ρ H d x ∧ xs = [x, .ty (tyName t)] ∧ FinG X.K cls (RD X.K) ρ H Q (ofO ((isD h t d).map D.bl) h)) := by
  refine CallR.imp call_isi fun xs H Q hq => ?_
  obtain ⟨ρ, h, d, x, hr, rx, rfl, hf⟩ := hq
  obtain ⟨b, e, q⟩ := fin_o (f := id) hr hf
  obtain ⟨T, h1, h2⟩ := kit_ok hr rx e
  exact ⟨x, _, T, _, b, rfl, .ty _, h1, h2, q⟩
end Rf

namespace Rf
open PySem PySem.Spec PyProof.Rows L2
variable {X : Cx} {cls : Nat → Option Addr}

/-! ### methods of built-in types, by values -/
def rM (K : PySem.W.Frag) (cls : Nat → Option Addr) (m : Mth) : V → List V → Hp → VK → Prop := fun x xs H Q => ∃ ρ h d as, HR K cls ρ H h ∧ RD K ρ H d x ∧ RDs K ρ H as xs ∧ FinG K cls (RD K) ρ H Q (mthD m d as h)
/-- a list of ours is written, the value is given -/
theorem fin_write {K : PySem.W.Frag} {ρ : List Addr} {H : Hp} {h : AH} {Q : VK} {n : Nat} {a : Addr} {ds : List D} {xs : List V} {d : D} {v : V} (hr : HR K cls ρ H h) (ha : ρ[n]? = some a) (r : RDs K ρ H ds xs) (rv : RD K ρ H d v)
    (hf : FinG K cls (RD K) ρ H Q (.ok d (h.set n (.lst ds)))) : Q v (upd H a (.lst xs)) := by
  obtain ⟨u, hu, hm⟩ := hr.known ha
  have k : Keep H (upd H a (.lst xs)) := Keep.write hu hm
  exact hf v _ ρ Ext.refl k (rv.mono Ext.refl k) (hr.write ha ⟨xs, upd_same, r.mono Ext.refl k⟩)
theorem mm_append : MtR X "list.append" (rM X.K cls .append) := by
  refine MtR.imp mt_append fun x xs H Q hq => ?_
  obtain ⟨ρ, h, d, as, hr, rx, ra, hf⟩ := hq
  unfold mthD at hf
  split at hf
  · split at hf <;> first
      | (cases ‹Mth.append = _›; done)
      | exact hf.elim
      | skip
    · rename_i hn
      split at hf
      · rename_i hl
        obtain ⟨p, ys, rfl, hp, hq, rp⟩ := hr.lst hn rx
        obtain ⟨y, rfl, ry⟩ := ra.one
        exact ⟨p, ys, y, rfl, rfl, hq, by rw [rp.length]; exact hl, fin_write hr hp (rp.snoc ry) RD.non hf⟩
      · exact hf.elim
  · exact hf.elim
theorem mm_extend : MtR X "list.extend" (rM X.K cls .extend) := by
  refine MtR.imp mt_extend fun x xs H Q hq => ?_
  obtain ⟨ρ, h, d, as, hr, rx, ra, hf⟩ := hq
  unfold mthD at hf
  split at hf
  · split at hf <;> first
      | (cases ‹Mth.extend = _›; done)
      | exact hf.elim
      | skip
    · rename_i hn
      split at hf
      · rename_i hg
        split at hf
        · rename_i hl
          obtain ⟨p, ys, rfl, hp, hq, rp⟩ := hr.lst hn rx
          obtain ⟨y, rfl, ry⟩ := ra.one
          obtain ⟨q, zs, rfl, _, hq2, rp2⟩ := hr.lst (getL_at hg) ry
          exact ⟨p, q, ys, zs, rfl, rfl, hq, hq2, by rw [rp.length, rp2.length]; exact hl, fin_write hr hp (rp.append rp2) RD.non hf⟩
        · exact hf.elim
      · exact hf.elim
  · exact hf.elim
theorem RDs.dropLast {K : PySem.W.Frag} {ρ : List Addr} {H : Hp} {ds : List D} {xs : List V} (r : RDs K ρ H ds xs) : RDs K ρ H ds.dropLast xs.dropLast := by
  rw [List.dropLast_eq_take, List.dropLast_eq_take, r.length]
  exact r.take _
theorem mm_pop : MtR X "list.pop" (rM X.K cls .pop) := by
  refine MtR.imp mt_pop fun x xs H Q hq => ?_
  obtain ⟨ρ, h, d, as, hr, rx, ra, hf⟩ := hq
  unfold mthD at hf
  split at hf
  · split at hf <;> first
      | (cases ‹Mth.pop = _›; done)
      | exact hf.elim
      | skip
    · rename_i hn
      split at hf
      · rename_i z hz
        obtain ⟨p, ys, rfl, hp, hq, rp⟩ := hr.lst hn rx
        rw [RDs] at ra
        subst ra
        rw [List.getLast?_eq_getElem?] at hz
        obtain ⟨y, h1, h2⟩ := rp.get hz
        exact ⟨p, ys, y, rfl, rfl, hq, by rw [rp.length]; exact h1, fin_write hr hp rp.dropLast h2 hf⟩
      · exact hf.elim
  · exact hf.elim
theorem mm_index : MtR X "list.index" (rM X.K cls .index) := by
  refine MtR.imp mt_index fun x xs H Q hq => ?_
  obtain ⟨ρ, h, d, as, hr, rx, ra, hf⟩ := hq
  unfold mthD at hf
  split at hf
  · split at hf <;> first
      | (cases ‹Mth.index = _›; done)
      | exact hf.elim
      | skip
    · rename_i hn
      split at hf
      · rename_i hc
        rw [Bool.and_eq_true] at hc
        split at hf
        · rename_i j hj
          obtain ⟨p, ys, rfl, hp, hq, rp⟩ := hr.lst hn rx
          obtain ⟨y, rfl, ry⟩ := ra.one
          obtain ⟨hj1, hj2, hj3⟩ := List.findIdx?_eq_some_iff_getElem.mp hj
          obtain ⟨z, h1, h2⟩ := rp.get (List.getElem?_eq_getElem hj1)
          have fl := List.all_eq_true.mp hc.2
          refine ⟨p, ys, y, j, z, rfl, rfl, SqL.of hq, flatD_V ry hc.1, flatD_Vs rp hc.2, h1, ?_, fun m z' hm hz' => ?_, hf.self RD.int hr⟩
          · rw [← flatEq_V h2 ry (fl _ (List.getElem_mem hj1)) hc.1]; exact hj2
          · have hmd := Nat.lt_trans hm hj1
            obtain ⟨z2, g1, g2⟩ := rp.get (List.getElem?_eq_getElem hmd)
            rw [g1] at hz'
            cases hz'
            have := hj3 m hm
            rw [← flatEq_V g2 ry (fl _ (List.getElem_mem hmd)) hc.1]
            simpa using this
        · exact hf.elim
      · exact hf.elim
  · exact hf.elim
def rGet1 : V → List V → Hp → VK → Prop := fun x xs H Q => ∃ a y o, x = .ref a ∧ xs = [y] ∧ DGet H a y o ∧ Q (o.getD .non) H
def rGet2 : V → List V → Hp → VK → Prop := fun x xs H Q => ∃ a y z o, x = .ref a ∧ xs = [y, z] ∧ DGet H a y o ∧ Q (o.getD z) H
theorem mt_get1 (hu : X.A.units + 1 < cLine) : MtR X "dict.get" rGet1 := by
  intro pins s σ H x xs v us Q I rx rs ⟨a, y, o, e1, e2, g, q⟩
  subst e1 e2
  obtain rfl : v = Value.ref a := rx
  obtain ⟨u, rfl, ry⟩ := vals1 rs
  exact d_get1 hu I g ry fun w' s3 I3 rw' => ⟨_, H, I3, rw', q⟩
theorem mt_get2 (hu : X.A.units + 1 < cLine) : MtR X "dict.get" rGet2 := by
  intro pins s σ H x xs v us Q I rx rs ⟨a, y, z, o, e1, e2, g, q⟩
  subst e1 e2
  obtain rfl : v = Value.ref a := rx
  obtain ⟨u, w, rfl, ry, rz⟩ := vals2 rs
  exact d_get2 hu I g ry rz fun w' s3 I3 rw' => ⟨_, H, I3, rw', q⟩
theorem look_getD {K : PySem.W.Frag} {ρ : List Addr} {H : Hp} {kvs : List (DK × D)} {ks : List (Key × V)} {k : DK} {d : D} {v : V} (r : KVs K ρ H kvs ks) (rv : RD K ρ H d v) : RD K ρ H ((lookK kvs k).getD d) ((valV ks (kD k)).getD v) := by
  have hl := KVs.look k r
  cases e : lookK kvs k with
  | none => rw [e] at hl; rw [hl]; exact rv
  | some z => rw [e] at hl; obtain ⟨w, h1, h2⟩ := hl; rw [h1]; exact h2
theorem mm_get1 (hu : X.A.units + 1 < cLine) : MtR X "dict.get" (rM X.K cls .get1) := by
  refine MtR.imp (mt_get1 hu) fun x xs H Q hq => ?_
  obtain ⟨ρ, h, d, as, hr, rx, ra, hf⟩ := hq
  unfold mthD at hf
  split at hf
  · split at hf <;> first
      | (cases ‹Mth.get1 = _›; done)
      | exact hf.elim
      | skip
    · rename_i hn
      split at hf
      · rename_i k hk
        obtain ⟨p, ys, rfl, hp, hq, rp⟩ := hr.dic hn rx
        obtain ⟨y, rfl, ry⟩ := ra.one
        exact ⟨p, y, valV ys (kD k), rfl, rfl, by rw [keyD_ok ry hk]; exact DGet.k hq, hf.self (look_getD rp RD.non) hr⟩
      · exact hf.elim
  · exact hf.elim
theorem mm_get2 (hu : X.A.units + 1 < cLine) : MtR X "dict.get" (rM X.K cls .get2) := by
  refine MtR.imp (mt_get2 hu) fun x xs H Q hq => ?_
  obtain ⟨ρ, h, d, as, hr, rx, ra, hf⟩ := hq
  unfold mthD at hf
  split at hf
  · split at hf <;> first
      | (cases ‹Mth.get2 = _›; done)
      | exact hf.elim
      | skip
    · rename_i hn
      split at hf
      · rename_i k hk
        obtain ⟨p, ys, rfl, hp, hq, rp⟩ := hr.dic hn rx
        obtain ⟨y, z, rfl, ry, rz⟩ := ra.two
        exact ⟨p, y, z, valV ys (kD k), rfl, rfl, by rw [keyD_ok ry hk]; exact DGet.k hq, hf.self (look_getD rp rz) hr⟩
      · exact hf.elim
  · exact hf.elim

/-! ### o[i] = v, o[i] read, op= -/
def rSx (K : PySem.W.Frag) (cls : Nat → Option Addr) : V → V → V → Hp → (Hp → Prop) → Prop := fun o i v H Q => ∃ ρ h a b c, HR K cls ρ H h ∧ RD K ρ H a o ∧ RD K ρ H b i ∧ RD K ρ H c v ∧ FinG K cls (fun _ _ _ _ => True) ρ H (fun (_ : Unit) H' => Q H') (sxl h a b c)
def rPutD : V → V → V → Hp → (Hp → Prop) → Prop := fun o i v H Q => ∃ a H', o = .ref a ∧ DPut H a i v H' ∧ Q H'
theorem set_dict (hu : X.A.units + 1 < cLine) : PSet X rPutD := by
  intro pins s σ H o i v ov iv u Q I ro ri rv ⟨a, H', e, g, q⟩
  subst e
  obtain rfl : ov = Value.ref a := ro
  exact d_setItem hu I g ri rv fun s4 I4 => ⟨H', I4, q⟩
theorem PSet.sum {r r' q : TSet} (h : PSet X r) (h' : PSet X r') (i : ∀ o i v H Q, q o i v H Q → r o i v H Q ∨ r' o i v H Q) : PSet X q := fun pins s σ H o k v ov iv u Q I ro ri rv z =>
  (i _ _ _ _ _ z).elim (h pins s σ H o k v ov iv u Q I ro ri rv) (h' pins s σ H o k v ov iv u Q I ro ri rv)
theorem KVs.put {K : PySem.W.Frag} {ρ : List Addr} {H : Hp} {kvs : List (DK × D)} {ks : List (Key × V)} (r : KVs K ρ H kvs ks) (k : DK) {d : D} {v : V} (rv : RD K ρ H d v) : KVs K ρ H (putKV kvs k d) (putK ks (kD k) v) := by
  have ha : (kvs.any fun kv => decide (kv.1 = k)) = (ks.any fun kv => decide (kv.1 = kD k)) := by
    induction r with
    | nil => rfl
    | cons h t ih =>
      rw [List.any_cons, List.any_cons, ih, ← h.1]
      congr 1
      rw [decide_eq_decide]
      exact ⟨fun e => by rw [e], kD_inj⟩
  have hb : KVs K ρ H (kvs.map fun kv => if kv.1 = k then (kv.1, d) else kv) (ks.map fun kv => if kv.1 = kD k then (kv.1, v) else kv) := by
    clear ha
    induction r with
    | nil => exact .nil
    | cons h t ih =>
      rw [List.map_cons, List.map_cons]
      refine .cons ?_ ih
      split
      · rename_i e
        rw [if_pos (by rw [← h.1, e])]
        exact ⟨h.1, rv⟩
      · rename_i e
        rw [if_neg (fun z => e (kD_inj (h.1.trans z)))]
        exact h
  unfold putKV putK
  rw [ha]
  split
  · exact hb
  · exact Paired.snoc r ⟨rfl, rv⟩
theorem set_all (hu : X.A.units + 1 < cLine) : PSet X (rSx X.K cls) := by
  refine PSet.sum set_list (set_dict hu) fun o i v H Q hq => ?_
  obtain ⟨ρ, h, a, b, c, hr, ro, ri, rv, hf⟩ := hq
  unfold sxl at hf
  split at hf
  · split at hf
    · rename_i hn
      split at hf
      · split at hf
        · rename_i j hj
          obtain ⟨p, xs, rfl, hp, hq, rp⟩ := hr.lst hn ro
          obtain ⟨u, hu', hm⟩ := hr.known hp
          have k : Keep H (upd H p (.lst (xs.set j v))) := Keep.write hu' hm
          refine .inl ⟨p, xs, _, j, rfl, ri.int_e, hq, by rw [rp.length]; exact hj, hf () _ ρ Ext.refl k trivial (hr.write hp ⟨_, upd_same, (rp.set j rv).mono Ext.refl k⟩)⟩
        · exact hf.elim
      · exact hf.elim
    · rename_i hn
      split at hf
      · rename_i k hk
        split at hf
        · rename_i hl
          obtain ⟨p, ks, rfl, hp, hq, rp⟩ := hr.dic hn ro
          obtain ⟨u, hu', hm⟩ := hr.known hp
          have kk : Keep H (upd H p (.dK (putK ks (kD k) v))) := Keep.write hu' hm
          refine .inr ⟨p, _, rfl, ?_, hf () _ ρ Ext.refl kk trivial (hr.write hp ⟨_, upd_same, Paired.mapP (rp.put k rv) fun _ _ z => ⟨z.1, z.2.mono Ext.refl kk⟩⟩)⟩
          rw [keyD_ok ri hk]
          exact DPut.k hq (by have e := Paired.length rp; rw [← e]; exact hl)
        · exact hf.elim
      · exact hf.elim
    · exact hf.elim
  · exact hf.elim
theorem augD_ok {o : Bop} {op : Operator} (e : bopOf op = some o) : PIp X op (r2 X.K cls (augD o)) := by
  have forI : ∀ {f : Int → Int → Int} {o : Bop} {op : Operator}, PIp X op (ipI f) → (∀ a b h Q H ρ (x y : V), HR X.K cls ρ H h → RD X.K ρ H a x → RD X.K ρ H b y → FinG X.K cls (RD X.K) ρ H Q (augD o a b h) → ∃ i j, x = .int i ∧ y = .int j ∧ Q (.int (f i j)) H) → PIp X op (r2 X.K cls (augD o)) :=
    fun hp hq pins s σ H x y v u Q I rx ry ⟨ρ, h, a, b, hr, ra, rb, hf⟩ => hp pins s σ H x y v u Q I rx ry (hq a b h Q H ρ x y hr ra rb hf)
  have never : ∀ {o : Bop} {op : Operator}, (∀ a b h, augD o a b h = .no) → PIp X op (r2 X.K cls (augD o)) :=
    fun hn pins s σ H x y v u Q I rx ry ⟨ρ, h, a, b, hr, ra, rb, hf⟩ => by rw [hn] at hf; exact hf.elim
  cases op <;> simp [bopOf] at e <;> subst e
  · refine forI ip_add fun a b h Q H ρ x y hr rx ry hf => ?_
    unfold augD at hf
    split at hf <;> first
      | (cases ‹Bop.add = _›; done)
      | exact ⟨_, _, rx.int_e, ry.int_e, hf.self RD.int hr⟩
      | exact hf.elim
  · refine forI ip_sub fun a b h Q H ρ x y hr rx ry hf => ?_
    unfold augD at hf
    split at hf <;> first
      | (cases ‹Bop.sub = _›; done)
      | exact ⟨_, _, rx.int_e, ry.int_e, hf.self RD.int hr⟩
      | exact hf.elim
  · exact never fun a b h => by cases a <;> cases b <;> rfl
  · exact never fun a b h => by cases a <;> cases b <;> rfl
  · exact never fun a b h => by cases a <;> cases b <;> rfl
  · exact never fun a b h => by cases a <;> cases b <;> rfl
end Rf

namespace Rf
open PySem PySem.Spec PyProof.Rows L2
variable {X : Cx} {cls : Nat → Option Addr}

/-! ### what is walked -/
def itemsAt (s : Src) (h : AH) : Option (List D) :=
  match s with
  | .ds ds => some ds
  | .ln n _ => getL h n
def IsSrc (K : PySem.W.Frag) (cls : Nat → Option Addr) (ρ : List Addr) (H : Hp) (s : Src) (J : It) : Prop :=
  ∀ ρ' H' h' ds, Ext ρ ρ' → Keep H H' → HR K cls ρ' H' h' → itemsAt s h' = some ds → ∀ i, (∀ d, ds[i]? = some d → J.go i H' ∧ ∀ x H2, J.yld i H' x H2 → Keep H' H2 ∧ HR K cls ρ' H2 h' ∧ RD K ρ' H2 d x) ∧ (ds.length ≤ i → J.stop i H')
theorem rangeD_get {lo : Int} : ∀ {n j i : Nat}, (rangeD lo j n)[i]? = if i < n then some (D.int (lo + ((j + i : Nat) : Int))) else none
  | 0, j, i => by simp [rangeD]
  | n + 1, j, 0 => by simp [rangeD]
  | n + 1, j, i + 1 => by
    rw [rangeD, List.getElem?_cons_succ, rangeD_get]
    by_cases h : i < n
    · rw [if_pos h, if_pos (by omega), show j + 1 + i = j + (i + 1) by omega]
    · rw [if_neg h, if_neg (by omega)]
theorem rangeD_len {lo : Int} : ∀ {n j : Nat}, (rangeD lo j n).length = n
  | 0, j => rfl
  | n + 1, j => by rw [rangeD, List.length_cons, rangeD_len]
theorem src_rng {K : PySem.W.Frag} {ρ : List Addr} {H : Hp} (lo : Int) (n : Nat) : IsSrc K cls ρ H (.ds (rangeD lo 0 n)) (Itr lo n) := by
  intro ρ' H' h' ds x k hr e i
  cases e
  rw [rangeD_get, rangeD_len]
  refine ⟨fun d hd => ?_, fun hi => hi⟩
  split at hd
  · rename_i hi
    cases hd
    refine ⟨hi, fun v H2 hy => ?_⟩
    obtain ⟨rfl, rfl⟩ := hy
    rw [Nat.zero_add]
    exact ⟨Keep.refl, hr, RD.int⟩
  · cases hd
/-- a tuple, or a list that stands -/
theorem src_tup {K : PySem.W.Frag} {ρ : List Addr} {H : Hp} {a : Addr} {xs : List V} {ds : List D} (hq : SqT K H a xs) (r : RDs K ρ H ds xs) : IsSrc K cls ρ H (.ds ds) (Itt K a) := by
  intro ρ' H' h' ds' x k hr e i
  cases e
  have q' := k.sqT hq
  refine ⟨fun d hd => ?_, fun hi => ⟨xs, q', by rw [r.length]; exact hi⟩⟩
  obtain ⟨v, h1, h2⟩ := r.get hd
  refine ⟨⟨xs, v, q', h1⟩, fun y H2 hy => ?_⟩
  obtain ⟨rfl, hy⟩ := hy
  have e1 := hy xs q'
  rw [h1] at e1
  cases e1
  exact ⟨Keep.refl, hr, h2.mono x k⟩
theorem src_lst {K : PySem.W.Frag} {ρ : List Addr} {H : Hp} {a : Addr} {n tot : Nat} (ha : ρ[n]? = some a) : IsSrc K cls ρ H (.ln n tot) (Itl K a) := by
  intro ρ' H' h' ds x k hr e i
  have ha' := x.get ha
  obtain ⟨xs, h1, h2⟩ := hr.ob n _ a (getL_at e) ha'
  have q' : SqL K H' a xs := SqL.of h1
  refine ⟨fun d hd => ?_, fun hi => ⟨xs, q', by rw [h2.length]; exact hi⟩⟩
  obtain ⟨v, g1, g2⟩ := h2.get hd
  refine ⟨⟨xs, v, q', g1⟩, fun y H2 hy => ?_⟩
  obtain ⟨rfl, hy⟩ := hy
  have e1 := hy xs q'
  rw [g1] at e1
  cases e1
  exact ⟨Keep.refl, hr, g2⟩

/-! ### targets -/
def tgIx : Tg → List Nat
  | .one i => [i]
  | .tup is => is
def SameOut (is : List Nat) (σ σ2 : L2.St) : Prop := σ2.length = σ.length ∧ ∀ j, j ∉ is → σ2[j]? = σ[j]?
def gT (K : PySem.W.Frag) (cls : Nat → Option Addr) (tg : Tg) : TG := fun v σ H Q => ∃ ρ env h d e2, ER K ρ H env σ ∧ HR K cls ρ H h ∧ RD K ρ H d v ∧ bindT tg d env h = some e2 ∧ ∀ σ2, ER K ρ H e2 σ2 → SameOut (tgIx tg) σ σ2 → Q σ2 H
theorem PG.imp {tg : Expr} {t t' : TG} (h : PG X tg t) (i : ∀ v σ H Q, t' v σ H Q → t v σ H Q) : PG X tg t' := ⟨fun pins s σ H v u Q I r q => h.run pins s σ H v u Q I r (i _ _ _ _ q)⟩
theorem SameOut.set {σ : L2.St} {i : Nat} {v : Option V} : SameOut [i] σ (σ.set i v) :=
  ⟨List.length_set, fun j hj => by rw [List.getElem?_set_ne (fun e => hj (by simp [e]))]⟩
theorem pg_one {i : Nat} {x : Str} {pos : Pos} (h : PG X (.Name x pos) (gName i)) : PG X (.Name x pos) (gT X.K cls (.one i)) := by
  refine PG.imp h fun v σ H Q hq => ?_
  obtain ⟨ρ, env, h, d, e2, er, hr, rv, e, q⟩ := hq
  cases e
  exact q _ (er.set i rv) SameOut.set
/-- the names' stores of a tuple target, in their order -/
def gNames : List Nat → TGs
  | [] => gNil
  | i :: is => gCons (gName i) (gNames is)
theorem gNames_ok {K : PySem.W.Frag} {ρ : List Addr} {H : Hp} {Q : L2.St → Hp → Prop} : ∀ {is : List Nat} {ds : List D} {xs : List V} {env e2 : Env'} {σ : L2.St}, ER K ρ H env σ → RDs K ρ H ds xs → bindAll is ds env = some e2 →
    (∀ σ2, ER K ρ H e2 σ2 → SameOut is σ σ2 → Q σ2 H) → gNames is xs σ H Q
  | [], [], _, _, _, _, er, r, e, q => by
    rw [RDs] at r
    cases e
    exact ⟨r, q _ er ⟨rfl, fun _ _ => rfl⟩⟩
  | [], _ :: _, _, _, _, _, _, _, e, _ => by cases e
  | _ :: _, [], _, _, _, _, _, _, e, _ => by cases e
  | i :: is, d :: ds, _, env, e2, σ, er, r, e, q => by
    rw [RDs] at r
    obtain ⟨x, xs, rfl, rx, rr⟩ := r
    refine ⟨x, xs, rfl, gNames_ok (er.set i rx) rr e fun σ2 e2 ⟨l, so⟩ => q σ2 e2 ⟨by rw [l, List.length_set], fun j hj => ?_⟩⟩
    rw [so j (fun z => hj (List.mem_cons_of_mem _ z)), List.getElem?_set_ne (fun z => hj (by simp [z]))]
theorem bindAll_len : ∀ {is : List Nat} {ds : List D} {env e2 : Env'}, bindAll is ds env = some e2 → ds.length = is.length
  | [], [], _, _, _ => rfl
  | [], _ :: _, _, _, e => by cases e
  | _ :: _, [], _, _, e => by cases e
  | i :: is, d :: ds, _, _, e => congrArg Nat.succ (bindAll_len (is := is) (ds := ds) e)
theorem pg_tupT {is : List Nat} {es : List Expr} {k : Nat} {pos : Pos} (h : PG X (.Tuple es k pos) (gTup X.K is.length (gNames is))) : PG X (.Tuple es k pos) (gT X.K cls (.tup is)) := by
  refine PG.imp h fun v σ H Q hq => ?_
  obtain ⟨ρ, env, h, d, e2, er, hr, rv, e, q⟩ := hq
  unfold bindT at e
  simp only at e
  split at e
  · obtain ⟨a, xs, rfl, hx, rx⟩ := rv.tup_e
    exact ⟨a, xs, rfl, hx, by rw [rx.length]; exact bindAll_len e, gNames_ok er rx e q⟩
  · cases e

/-! ### for -/
section
variable {K : PySem.W.Frag}
abbrev loopG (K : PySem.W.Frag) (cls : Nat → Option Addr) (J : It) (g : TG) (tb : TS) (D' : Ends) (σ : L2.St) (H : Hp) : Prop :=
  ∃ W : Nat → Nat → L2.St → Hp → Prop, (∃ m, W 0 m σ H) ∧ ∀ i m σ H, W i m σ H →
  (J.stop i H ∧ D'.nx σ H) ∨ (J.go i H ∧ ∃ N : L2.St → Hp → Prop, (∀ σ' H', N σ' H' → ∃ m', m' < m ∧ W (i + 1) m' σ' H') ∧ ∀ x H', J.yld i H x H' → g x σ H' fun σ2 H2 => tb { D' with nx := N, ct := N, bk := D'.nx } σ2 H2)
/-- one turn's body -/
theorem body_ok {ρ : List Addr} {H : Hp} {D' : Ends} {r : Rs Fl} {N : L2.St → Hp → Prop} {k : Env' → AH → Rs Fl}
    (hf : FinS K cls ρ H D' (r.bind fun f h1 => match f with
      | .nx e1 => k e1 h1
      | .ct e1 => k e1 h1
      | .bk e1 => .ok (.nx e1) h1
      | .rt x => .ok (.rt x) h1))
    (hN : ∀ σ' H' ρ' e1 h1, Ext ρ ρ' → Keep H H' → ER K ρ' H' e1 σ' → HR K cls ρ' H' h1 → FinS K cls ρ' H' D' (k e1 h1) → N σ' H') : FinS K cls ρ H { D' with nx := N, ct := N, bk := D'.nx } r := by
  cases r with
  | ex _ _ => exact hf
  | no => exact hf
  | ok f h1 =>
    cases f with
    | nx e1 => exact fun σ' H' ρ' x kk er hr => hN σ' H' ρ' e1 h1 x kk er hr (FinS.weaken hf x kk)
    | ct e1 => exact fun σ' H' ρ' x kk er hr => hN σ' H' ρ' e1 h1 x kk er hr (FinS.weaken hf x kk)
    | bk e1 => exact hf
    | rt x => exact hf
theorem for_ds {J : It} {tg : Tg} {body : Env' → AH → Rs Fl} {D' : Ends} {ρ : List Addr} {H : Hp} {env : Env'} {σ : L2.St} {h : AH} {ds : List D} (hs : IsSrc K cls ρ H (.ds ds) J) (er : ER K ρ H env σ) (hr : HR K cls ρ H h)
    (hf : FinS K cls ρ H D' (forD (fun d e1 h2 => match bindT tg d e1 h2 with
        | none => .no
        | some e2 => body e2 h2) ds env h)) : loopG K cls J (gT K cls tg) (tS K cls body) D' σ H := by
  refine ⟨fun i m σ1 H1 => i + m = ds.length ∧ ∃ ρ1 e1 h1, Ext ρ ρ1 ∧ Keep H H1 ∧ ER K ρ1 H1 e1 σ1 ∧ HR K cls ρ1 H1 h1 ∧ FinS K cls ρ1 H1 D' (forD (fun d e1 h2 => match bindT tg d e1 h2 with
        | none => .no
        | some e2 => body e2 h2) (ds.drop i) e1 h1), ⟨ds.length, by simp, ρ, env, h, Ext.refl, Keep.refl, er, hr, hf⟩, ?_⟩
  rintro i m σ1 H1 ⟨hm, ρ1, e1, h1, x1, k1, er1, hr1, hf1⟩
  obtain ⟨go, stop⟩ := hs ρ1 H1 h1 ds x1 k1 hr1 rfl i
  by_cases hi : i < ds.length
  · obtain ⟨hgo, hy⟩ := go _ (List.getElem?_eq_getElem hi)
    refine .inr ⟨hgo, fun σ' H' => i + 1 + (m - 1) = ds.length ∧ ∃ ρ1 e1 h1, Ext ρ ρ1 ∧ Keep H H' ∧ ER K ρ1 H' e1 σ' ∧ HR K cls ρ1 H' h1 ∧ FinS K cls ρ1 H' D' (forD _ (ds.drop (i + 1)) e1 h1), fun σ' H' hN => ⟨m - 1, by omega, hN⟩, fun v H2 hyl => ?_⟩
    obtain ⟨k2, hr2, rv⟩ := hy v H2 hyl
    rw [List.drop_eq_getElem_cons hi, forD] at hf1
    cases eb : bindT tg ds[i] e1 h1 with
    | none => rw [eb] at hf1; exact hf1.elim
    | some e2 =>
      rw [eb] at hf1
      refine ⟨ρ1, e1, h1, ds[i], e2, er1.mono Ext.refl k2, hr2, rv, eb, fun σ2 er2 _ => ⟨ρ1, e2, h1, er2, hr2, ?_⟩⟩
      refine body_ok (FinS.weaken hf1 Ext.refl k2) fun σ' H' ρ' e3 h3 x3 k3 er3 hr3 hf3 => ?_
      exact ⟨by omega, ρ', e3, h3, x1.trans x3, (k1.trans k2).trans k3, er3, hr3, hf3⟩
  · refine .inl ⟨stop (by omega), ?_⟩
    rw [List.drop_eq_nil_of_le (by omega), forD] at hf1
    exact hf1 σ1 H1 ρ1 Ext.refl Keep.refl er1 hr1
theorem for_ln {J : It} {tg : Tg} {body : Env' → AH → Rs Fl} {D' : Ends} {ρ : List Addr} {H : Hp} {env : Env'} {σ : L2.St} {h : AH} {n tot : Nat} (hs : IsSrc K cls ρ H (.ln n tot) J) (er : ER K ρ H env σ) (hr : HR K cls ρ H h)
    (hf : FinS K cls ρ H D' (forN (fun d e1 h2 => match bindT tg d e1 h2 with
        | none => .no
        | some e2 => body e2 h2) n tot 0 env h)) : loopG K cls J (gT K cls tg) (tS K cls body) D' σ H := by
  refine ⟨fun i m σ1 H1 => ∃ ρ1 e1 h1, Ext ρ ρ1 ∧ Keep H H1 ∧ ER K ρ1 H1 e1 σ1 ∧ HR K cls ρ1 H1 h1 ∧ FinS K cls ρ1 H1 D' (forN (fun d e1 h2 => match bindT tg d e1 h2 with
        | none => .no
        | some e2 => body e2 h2) n m i e1 h1), ⟨tot, ρ, env, h, Ext.refl, Keep.refl, er, hr, hf⟩, ?_⟩
  rintro i m σ1 H1 ⟨ρ1, e1, h1, x1, k1, er1, hr1, hf1⟩
  cases m with
  | zero =>
    rw [forN] at hf1
    cases eg : getL h1 n with
    | none => rw [eg] at hf1; exact hf1.elim
    | some ds =>
      rw [eg] at hf1
      dsimp only at hf1
      split at hf1
      · rename_i hl
        exact .inl ⟨(hs ρ1 H1 h1 ds x1 k1 hr1 eg i).2 hl, hf1 σ1 H1 ρ1 Ext.refl Keep.refl er1 hr1⟩
      · exact hf1.elim
  | succ m =>
    rw [forN] at hf1
    cases eg : getL h1 n with
    | none => rw [eg] at hf1; exact hf1.elim
    | some ds =>
      rw [eg] at hf1
      dsimp only at hf1
      cases ed : ds[i]? with
      | none => rw [ed] at hf1; exact hf1.elim
      | some d =>
        rw [ed] at hf1
        dsimp only at hf1
        obtain ⟨hgo, hy⟩ := (hs ρ1 H1 h1 ds x1 k1 hr1 eg i).1 d ed
        refine .inr ⟨hgo, fun σ' H' => ∃ ρ1 e1 h1, Ext ρ ρ1 ∧ Keep H H' ∧ ER K ρ1 H' e1 σ' ∧ HR K cls ρ1 H' h1 ∧ FinS K cls ρ1 H' D' (forN _ n m (i + 1) e1 h1), fun σ' H' hN => ⟨m, by omega, hN⟩, fun v H2 hyl => ?_⟩
        obtain ⟨k2, hr2, rv⟩ := hy v H2 hyl
        cases eb : bindT tg d e1 h1 with
        | none => rw [eb] at hf1; exact hf1.elim
        | some e2 =>
          rw [eb] at hf1
          refine ⟨ρ1, e1, h1, d, e2, er1.mono Ext.refl k2, hr2, rv, eb, fun σ2 er2 _ => ⟨ρ1, e2, h1, er2, hr2, ?_⟩⟩
          refine body_ok (FinS.weaken hf1 Ext.refl k2) fun σ' H' ρ' e3 h3 x3 k3 er3 hr3 hf3 => ?_
          exact ⟨ρ', e3, h3, x1.trans x3, (k1.trans k2).trans k3, er3, hr3, hf3⟩

/-! ### while -/
theorem whl_ok {test : Env' → AH → Rs Bool} {body : Env' → AH → Rs Fl} {D' : Ends} {n : Nat} {σ : L2.St} {H : Hp} (h : tS K cls (whlF test body n) D' σ H) : tWhile (tT K cls test) (tS K cls body) D' σ H := by
  refine ⟨fun m σ H => tS K cls (whlF test body m) D' σ H, ⟨n, h⟩, ?_⟩
  rintro m σ1 H1 ⟨ρ, env, h1, er, hr, hf⟩
  cases m with
  | zero => exact hf.elim
  | succ m =>
    rw [whlF] at hf
    refine tG.bindS er hr hf fun b H2 ρ2 a h2 x2 k2 rb hr2 er2 hf2 => ?_
    cases rb
    cases b with
    | false => exact hf2 σ1 H2 ρ2 Ext.refl Keep.refl er2 hr2
    | true =>
      refine ⟨fun σ' H' => tS K cls (whlF test body m) D' σ' H', fun σ' H' hN => ⟨m, by omega, hN⟩, ρ2, env, h2, er2, hr2, ?_⟩
      exact body_ok hf2 fun σ' H' ρ' e3 h3 x3 k3 er3 hr3 hf3 => ⟨ρ', e3, h3, er3, hr3, hf3⟩

/-! ### comprehensions -/
theorem wipeE_ok {ρ : List Addr} {H : Hp} {env : Env'} {σ : L2.St} (er : ER K ρ H env σ) : ∀ own : List Nat, ER K ρ H (wipeE env own) (wipe σ own)
  | [] => er
  | v :: vs => (wipeE_ok er vs).wipe1 v
theorem wipe_in {σ : L2.St} : ∀ {vs : List Nat} {j : Nat}, j ∈ vs → (wipe σ vs)[j]? = if j < σ.length then some none else none
  | v :: vs, j, hj => by
    rw [wipe, List.getElem?_set]
    by_cases e : v = j
    · rw [if_pos e, wipe_length]
      subst e
      rfl
    · rw [if_neg e]
      exact wipe_in (by rcases List.mem_cons.mp hj with z | z; exact absurd z.symm e; exact z)
theorem wipe_out {σ : L2.St} : ∀ {vs : List Nat} {j : Nat}, j ∉ vs → (wipe σ vs)[j]? = σ[j]?
  | [], _, _ => rfl
  | v :: vs, j, hj => by
    rw [wipe, List.getElem?_set_ne (fun e => hj (by simp [e]))]
    exact wipe_out fun z => hj (List.mem_cons_of_mem _ z)
theorem wipe_same {σ σ2 : L2.St} {vs is : List Nat} (hi : ∀ i ∈ is, i ∈ vs) (so : SameOut is (wipe σ vs) σ2) : wipe σ2 vs = wipe σ vs := by
  obtain ⟨l, so⟩ := so
  rw [wipe_length] at l
  refine List.ext_getElem? fun j => ?_
  by_cases hj : j ∈ vs
  · rw [wipe_in hj, wipe_in hj, l]
  · rw [wipe_out hj, so j (fun z => hj (hi j z))]
abbrev loopC (J : It) (g : TG) (tt : TT) (te : TE) (own : List Nat) (Dn : Addr) (σ : L2.St) (Q : VK) (H0 : Hp) : Prop :=
  ∃ W : Nat → Nat → Hp → Prop, (∃ m, W 0 m H0) ∧ ∀ i m H, W i m H →
  (J.stop i H ∧ Q (.ref Dn) H) ∨ (J.go i H ∧ ∃ Nx : Hp → Prop, (∀ H', Nx H' → ∃ m', m' < m ∧ W (i + 1) m' H') ∧ ∀ x H', J.yld i H x H' → g x (wipe σ own) H' fun σ2 H2 => wipe σ2 own = wipe σ own ∧ tt σ2 H2 fun b H3 =>
    if b = true then te σ2 H3 fun y H4 => ∃ acc, H4 Dn = some (.lst acc) ∧ acc.length < sizeLine ∧ Nx (upd H4 Dn (.lst (acc ++ [y]))) else Nx H3)
/-- what a turn is to reach -/
theorem lcTurn {tg : Tg} {own : List Nat} {test : Env' → AH → Rs Bool} {el : Env' → AH → Rs D} {env : Env'} {σ : L2.St} {Q : VK} {Dn : Addr} {m : Nat} {ρ : List Addr} {H : Hp} {h : AH} {d : D} {x : V} {k : AH → Rs D} {Nx : Hp → Prop}
    (htg : ∀ i ∈ tgIx tg, i ∈ own) (er : ER K ρ H env σ) (hr : HR K cls ρ H h) (rv : RD K ρ H d x) (hm : ρ[m]? = some Dn)
    (hf : FinG K cls (RD K) ρ H Q ((lcStep tg own test el env d h).bind fun r h1 => match r with
    | none => k h1
    | some y => match getL h1 m with
      | some acc => if acc.length < lim then k (h1.set m (.lst (acc ++ [y]))) else .no
      | none => .no))
    (hN : ∀ H' ρ' h', Ext ρ ρ' → Keep H H' → HR K cls ρ' H' h' → FinG K cls (RD K) ρ' H' Q (k h') → Nx H') :
    gT K cls tg x (wipe σ own) H fun σ2 H2 => wipe σ2 own = wipe σ own ∧ tT K cls test σ2 H2 fun b H3 =>
      if b = true then tE K cls el σ2 H3 fun y H4 => ∃ acc, H4 Dn = some (.lst acc) ∧ acc.length < sizeLine ∧ Nx (upd H4 Dn (.lst (acc ++ [y]))) else Nx H3 := by
  unfold lcStep at hf
  cases eb : bindT tg d (wipeE env own) h with
  | none => rw [eb] at hf; exact hf.elim
  | some e2 =>
    rw [eb] at hf
    dsimp only at hf
    refine ⟨ρ, wipeE env own, h, d, e2, wipeE_ok er own, hr, rv, eb, fun σ2 er2 so => ⟨wipe_same htg so, ρ, e2, h, er2, hr, ?_⟩⟩
    generalize test e2 h = r at hf
    cases r with
    | ex _ _ => exact hf
    | no => exact hf
    | ok b h1 =>
      intro b' H1 ρ1 x1 k1 eb' hr1
      cases eb'
      have hf1 := FinG.weaken (R := RD K) hf x1 k1
      cases b with
      | false =>
        rw [if_neg Bool.false_ne_true]
        exact hN H1 ρ1 h1 x1 k1 hr1 hf1
      | true =>
        rw [if_pos rfl]
        refine ⟨ρ1, e2, h1, er2.mono x1 k1, hr1, ?_⟩
        dsimp only [Rs.bind] at hf1
        generalize el e2 h1 = r at hf1
        cases r with
        | ex _ _ => exact hf1
        | no => exact hf1
        | ok y h2 =>
          intro v H2 ρ2 x2 k2 ry hr2
          have hf2 := FinG.weaken (R := RD K) hf1 x2 k2
          dsimp only [Rs.bind] at hf2
          cases eg : getL h2 m with
          | none => rw [eg] at hf2; exact hf2.elim
          | some acc =>
            rw [eg] at hf2
            dsimp only at hf2
            split at hf2
            · rename_i hl
              have hm2 := x2.get (x1.get hm)
              obtain ⟨xs, g1, g2⟩ := hr2.ob m _ Dn (getL_at eg) hm2
              have k3 : Keep H2 (upd H2 Dn (.lst (xs ++ [v]))) := Keep.write g1 trivial
              refine ⟨xs, g1, by rw [g2.length]; exact hl, hN _ ρ2 _ (x1.trans x2) ((k1.trans k2).trans k3) (hr2.write (ob := .lst (acc ++ [y])) hm2 ⟨_, upd_same, (g2.snoc ry).mono Ext.refl k3⟩) (FinG.weaken hf2 Ext.refl k3)⟩
            · exact hf2.elim
theorem lc_ds {J : It} {tg : Tg} {own : List Nat} {test : Env' → AH → Rs Bool} {el : Env' → AH → Rs D} {env : Env'} {σ : L2.St} {Q : VK} {Dn : Addr} {m : Nat} {ρ : List Addr} {H : Hp} {h : AH} {ds : List D} (hs : IsSrc K cls ρ H (.ds ds) J)
    (htg : ∀ i ∈ tgIx tg, i ∈ own) (er : ER K ρ H env σ) (hr : HR K cls ρ H h) (hm : ρ[m]? = some Dn)
    (hf : FinG K cls (RD K) ρ H Q (lcD m (lcStep tg own test el env) ds h)) : loopC J (gT K cls tg) (tT K cls test) (tE K cls el) own Dn σ Q H := by
  refine ⟨fun i c H1 => i + c = ds.length ∧ ∃ ρ1 h1, Ext ρ ρ1 ∧ Keep H H1 ∧ HR K cls ρ1 H1 h1 ∧ FinG K cls (RD K) ρ1 H1 Q (lcD m (lcStep tg own test el env) (ds.drop i) h1), ⟨ds.length, by simp, ρ, h, Ext.refl, Keep.refl, hr, hf⟩, ?_⟩
  rintro i c H1 ⟨hc, ρ1, h1, x1, k1, hr1, hf1⟩
  obtain ⟨go, stop⟩ := hs ρ1 H1 h1 ds x1 k1 hr1 rfl i
  by_cases hi : i < ds.length
  · obtain ⟨hgo, hy⟩ := go _ (List.getElem?_eq_getElem hi)
    refine .inr ⟨hgo, fun H' => i + 1 + (c - 1) = ds.length ∧ ∃ ρ1 h1, Ext ρ ρ1 ∧ Keep H H' ∧ HR K cls ρ1 H' h1 ∧ FinG K cls (RD K) ρ1 H' Q (lcD m (lcStep tg own test el env) (ds.drop (i + 1)) h1), fun H' hN => ⟨c - 1, by omega, hN⟩, fun v H2 hyl => ?_⟩
    obtain ⟨k2, hr2, rv⟩ := hy v H2 hyl
    rw [List.drop_eq_getElem_cons hi, lcD] at hf1
    exact lcTurn htg (er.mono x1 (k1.trans k2)) hr2 rv (x1.get hm) (FinG.weaken hf1 Ext.refl k2) fun H' ρ' h' x3 k3 hr3 hf3 => ⟨by omega, ρ', h', x1.trans x3, (k1.trans k2).trans k3, hr3, hf3⟩
  · refine .inl ⟨stop (by omega), ?_⟩
    rw [List.drop_eq_nil_of_le (by omega), lcD] at hf1
    exact FinG.self hf1 (RD.ref (x1.get hm)) hr1
theorem lc_ln {J : It} {tg : Tg} {own : List Nat} {test : Env' → AH → Rs Bool} {el : Env' → AH → Rs D} {env : Env'} {σ : L2.St} {Q : VK} {Dn : Addr} {m : Nat} {ρ : List Addr} {H : Hp} {h : AH} {n tot : Nat} (hs : IsSrc K cls ρ H (.ln n tot) J)
    (htg : ∀ i ∈ tgIx tg, i ∈ own) (er : ER K ρ H env σ) (hr : HR K cls ρ H h) (hm : ρ[m]? = some Dn)
    (hf : FinG K cls (RD K) ρ H Q (lcN m (lcStep tg own test el env) n tot 0 h)) : loopC J (gT K cls tg) (tT K cls test) (tE K cls el) own Dn σ Q H := by
  refine ⟨fun i c H1 => ∃ ρ1 h1, Ext ρ ρ1 ∧ Keep H H1 ∧ HR K cls ρ1 H1 h1 ∧ FinG K cls (RD K) ρ1 H1 Q (lcN m (lcStep tg own test el env) n c i h1), ⟨tot, ρ, h, Ext.refl, Keep.refl, hr, hf⟩, ?_⟩
  rintro i c H1 ⟨ρ1, h1, x1, k1, hr1, hf1⟩
  cases c with
  | zero =>
    rw [lcN] at hf1
    cases eg : getL h1 n with
    | none => rw [eg] at hf1; exact hf1.elim
    | some ds =>
      rw [eg] at hf1
      dsimp only at hf1
      split at hf1
      · rename_i hl
        exact .inl ⟨(hs ρ1 H1 h1 ds x1 k1 hr1 eg i).2 hl, FinG.self hf1 (RD.ref (x1.get hm)) hr1⟩
      · exact hf1.elim
  | succ c =>
    rw [lcN] at hf1
    cases eg : getL h1 n with
    | none => rw [eg] at hf1; exact hf1.elim
    | some ds =>
      rw [eg] at hf1
      dsimp only at hf1
      cases ed : ds[i]? with
      | none => rw [ed] at hf1; exact hf1.elim
      | some d =>
        rw [ed] at hf1
        dsimp only at hf1
        obtain ⟨hgo, hy⟩ := (hs ρ1 H1 h1 ds x1 k1 hr1 eg i).1 d ed
        refine .inr ⟨hgo, fun H' => ∃ ρ1 h1, Ext ρ ρ1 ∧ Keep H H' ∧ HR K cls ρ1 H' h1 ∧ FinG K cls (RD K) ρ1 H' Q (lcN m (lcStep tg own test el env) n c (i + 1) h1), fun H' hN => ⟨c, by omega, hN⟩, fun v H2 hyl => ?_⟩
        obtain ⟨k2, hr2, rv⟩ := hy v H2 hyl
        exact lcTurn htg (er.mono x1 (k1.trans k2)) hr2 rv (x1.get hm) (FinG.weaken hf1 Ext.refl k2) fun H' ρ' h' x3 k3 hr3 hf3 => ⟨ρ', h', x1.trans x3, (k1.trans k2).trans k3, hr3, hf3⟩
end
end Rf

namespace Rf
open PySem PySem.Spec PyProof.Rows L2
open Sem (wp)
open AutoSeq1 (wpAny_loadPart')
open Builtin.SmallTypes (nextOf ownedTupleIsFree ownedTupleHandOut)

/-! ### enumerate over a tuple -/
section
variable {prog : Program} {w : World} {A : Around} {E : Value → Shared → Prop} {s : Shared}
theorem nx_tup {it t : Addr} {j : Nat} {its} {x : Value} {Q : Value → Shared → Prop} (gi : s.heap.IsTupleIter it t j) (gt : s.heap.IsTuple t its) (gx : its[j]? = some x)
    (kq : ∀ h1, h1.IsTupleIter it t (j + 1) → Heap.SameBut it s.heap h1 → Q x { s with heap := h1 }) : wpAny (model prog w) A (nextOf (.ref it)) Q E s := by
  obtain ⟨ob, gO, gC, gD⟩ := id gi
  obtain ⟨ot, gT, _, nt, gTd⟩ := gt
  have ty := gi.typeIs
  unfold nextOf
  refine wpAny_bind <| wpAny_callSpecial?_slot (name := Str.ofString "__next__") ty F.slot_tuple_iterator_next <|
    wpAny_call_entry F.slot_tuple_iterator_next ty F.entry_tuple_iterator_next ?_ (F.args_tuple_iterator_next_1 _)
  show wpAny _ _ (do let y ← field (.ref it) 0; _) _ _ s
  refine wpAny_bind <| wpAny_field gO gD (x := .ref t) rfl ?_
  show wpAny _ _ (ite ((Value.ref t == Value.none) = true) _ _) _ _ s
  rw [if_neg (by intro z; cases z)]
  show wpAny _ _ (do let y ← field (.ref it) 1; _) _ _ s
  refine wpAny_bind <| wpAny_field gO gD (x := .int j 0) rfl ?_
  show wpAny _ _ (do let y ← seqItems? (.ref t); _) _ _ s
  refine wpAny_bind <| wpAny_seqItems gT gTd ?_
  simp only [gx, Int.toNat_natCast]
  refine wpAny_bind <| wpAny_setField gO gD (by simp) <| wpAny_pure ⟨x, rfl, wpAny_pure <| kq _ ⟨_, Heap.get?_update_self _ gO (Obj.isFreed_of_fields (Obj.data_mapFields gD _)), (Obj.cls_mapFields ..).trans gC, ?_⟩ (Heap.SameBut.update ..)⟩
  rw [Obj.data_mapFields gD]
  simp [rawInt]
theorem nx_tup_end {it t : Addr} {j : Nat} {its} {Q : Value → Shared → Prop} (nh : A.handled = none) (gi : s.heap.IsTupleIter it t j) (gt : s.heap.IsTuple t its) (gx : its[j]? = none)
    (ke : ∀ h1 e, Heap.ExtBut it s.heap h1 → (∃ o, h1.get? e = some o ∧ o.cls = .type "StopIteration") → E (.ref e) { s with heap := h1 }) : wpAny (model prog w) A (nextOf (.ref it)) Q E s := by
  obtain ⟨ob, gO, gC, gD⟩ := id gi
  obtain ⟨ot, gT, _, nt, gTd⟩ := gt
  have ty := gi.typeIs
  unfold nextOf
  refine wpAny_bind <| wpAny_callSpecial?_slot (name := Str.ofString "__next__") ty F.slot_tuple_iterator_next <|
    wpAny_call_entry F.slot_tuple_iterator_next ty F.entry_tuple_iterator_next ?_ (F.args_tuple_iterator_next_1 _)
  show wpAny _ _ (do let y ← field (.ref it) 0; _) _ _ s
  refine wpAny_bind <| wpAny_field gO gD (x := .ref t) rfl ?_
  show wpAny _ _ (ite ((Value.ref t == Value.none) = true) _ _) _ _ s
  rw [if_neg (by intro z; cases z)]
  show wpAny _ _ (do let y ← field (.ref it) 1; _) _ _ s
  refine wpAny_bind <| wpAny_field gO gD (x := .int j 0) rfl ?_
  show wpAny _ _ (do let y ← seqItems? (.ref t); _) _ _ s
  refine wpAny_bind <| wpAny_seqItems gT gTd ?_
  simp only [gx, Int.toNat_natCast]
  refine wpAny_bind <| wpAny_rule <| wpAny_bind <| wpAny_setField gO gD (by simp) ?_
  show wpAny _ _ (do let y ← newExc (.type "StopIteration") []; _) _ _ _
  refine wpAny_bind ?_
  simp only [newTuple, newExc]
  refine wpAny_bind <| wpAny_newObj_type ?_ (by size_fits)
  refine wpAny_bind (m := firstArgMember _ _) <| wpAny_of_eq (a := Value.none) (by first | rfl | (simp only [firstArgMember]; rfl)) ?_
  refine wpAny_newObj_type ?_ (by size_fits)
  simp only [raiseNew]
  refine wpAny_bind <| wpAny_handled ?_
  first | rw [show A.in1.handled = none from nh] | rw [nh]
  refine wpAny_bind <| wpAny_pure <| wpAny_throw ?_
  exact ke _ _ (((Heap.SameBut.update ..).extBut.push _).push _) ⟨_, Heap.get?_push_size _ rfl, rfl⟩
/-- one turn of enumerate over a tuple -/
theorem en_turn {e it t : Addr} {j : Nat} {its : Array Value} {x old : Value} {Q : Value → Shared → Prop} (ge : IsEnum s.heap e it j old) (gi : s.heap.IsTupleIter it t j) (gt : s.heap.IsTuple t its) (gx : its[j]? = some x) (ne : e ≠ it)
    (kq : ∀ z, IsEnumOut z e it ((j : Int) + 1) x s.heap.objs.size → z.IsTupleIter it t (j + 1) → z.get? s.heap.objs.size = some { cls := .type "tuple", data := .seq #[.int j s.toks, x] } →
      z.objs.size = s.heap.objs.size + 1 → (∀ b o, b ≠ e → b ≠ it → s.heap.get? b = some o → z.get? b = some o) → Q (.ref s.heap.objs.size) { s with heap := z, toks := s.toks + 1 }) :
    wpAny (model prog w) A (Builtin.«enumerate.__next__» ⟨[.ref e], []⟩) (fun f s1 => ∃ v, f = .done (.ret v) ∧ Q v s1) E s := by
  obtain ⟨hp, gn, dr, tk, os⟩ := s
  have ni := Ne.symm ne
  show wpAny _ _ (do let y ← field (.ref e) 2; _) _ _ _
  refine wpAny_bind <| wpAny_field ge rfl (x := .ref it) rfl ?_
  refine wpAny_bind <| nx_tup gi gt gx fun z1 i1 b1 => ?_
  have b1 : Heap.SameBut it hp z1 := b1
  have e1 : IsEnum z1 e it j old := (b1.2 e ne).trans ge
  show wpAny _ _ (do let y ← field (.ref e) 3; _) _ _ ⟨z1, gn, dr, tk, os⟩
  refine wpAny_bind <| wpAny_field e1 rfl (x := rawInt j) rfl ?_
  show wpAny _ _ (do let y ← field (.ref e) 4; _) _ _ ⟨z1, gn, dr, tk, os⟩
  refine wpAny_bind <| wpAny_field e1 rfl (x := .none) rfl ?_
  show wpAny _ _ (do let y ← mkInt j; _) _ _ ⟨z1, gn, dr, tk, os⟩
  refine wpAny_bind <| wpAny_mkInt ?_
  show wpAny _ _ (do setField (.ref e) 3 (rawInt ((j : Int) + 1)); _) _ _ ⟨z1, gn, dr, tk + 1, os⟩
  refine wpAny_bind <| wpAny_setField_rec e1 (by simp) fun z2 e2 b2 => ?_
  have b2 : Heap.SameBut e z1 z2 := b2
  have e2 : IsEnum z2 e it ((j : Int) + 1) old := e2
  show wpAny _ _ (do setField (.ref e) 4 .none; _) _ _ ⟨z2, gn, dr, tk + 1, os⟩
  refine wpAny_bind <| wpAny_setField_rec e2 (by simp) fun z3 e3 b3 => ?_
  have b3 : Heap.SameBut e z2 z3 := b3
  have e3 : IsEnum z3 e it ((j : Int) + 1) old := e3
  show wpAny _ _ (do let y ← newTuple [.int j tk, x]; _) _ _ ⟨z3, gn, dr, tk + 1, os⟩
  refine wpAny_bind <| wpAny_newTuple ?_
  have sz : z3.objs.size = hp.objs.size := (b3.1.trans b2.1).trans b1.1
  have lt : e < hp.objs.size := Heap.lt_size ge
  obtain ⟨z4, hz4⟩ : ∃ z, z = z3.push { cls := .type "tuple", data := .seq #[.int j tk, x] } := ⟨_, rfl⟩
  have e4 : IsEnum z4 e it ((j : Int) + 1) old := by rw [hz4]; exact Heap.get?_push_of_some _ e3
  have T4 : z4.get? hp.objs.size = some { cls := .type "tuple", data := .seq #[.int j tk, x] } := by rw [hz4, ← sz]; exact Heap.get?_push_size _ rfl
  have s4 : z4.objs.size = hp.objs.size + 1 := by rw [hz4, Heap.size_push, sz]
  have k4 : ∀ b o, b ≠ e → b ≠ it → hp.get? b = some o → z4.get? b = some o := by
    intro b o n1 n2 g
    rw [hz4]
    exact Heap.get?_push_of_some _ (((b3.2 b n1).trans ((b2.2 b n1).trans (b1.2 b n2))).trans g)
  have i4 : z4.IsTupleIter it t (j + 1) := by
    obtain ⟨o, g, r⟩ := (i1.extBut b2.extBut ni).extBut b3.extBut ni
    rw [hz4]
    exact ⟨o, Heap.get?_push_of_some _ g, r⟩
  rw [sz, ← hz4]
  show wpAny _ _ (do let y ← ownedTupleIsFree (.ref e); _) _ _ ⟨z4, gn, dr, tk + 1, os⟩
  refine wpAny_bind ?_
  unfold ownedTupleIsFree
  refine wpAny_bind <| wpAny_field e4 rfl (x := .none) rfl <| wpAny_pure ?_
  simp only [if_true]
  refine wpAny_bind <| wpAny_rule ?_
  refine wpAny_bind <| wpAny_field e4 rfl (x := old) rfl ?_
  refine wpAny_bind <| wpAny_setField_rec e4 (by simp) fun z5 e5 b5 => ?_
  have b5 : Heap.SameBut e z4 z5 := b5
  have e5 : IsEnum z5 e it ((j : Int) + 1) x := e5
  show wpAny _ _ (do ownedTupleHandOut (.ref e) (.ref hp.objs.size); _) _ _ ⟨z5, gn, dr, tk + 1, os⟩
  refine wpAny_bind ?_
  unfold ownedTupleHandOut
  refine wpAny_bind <| wpAny_setField_rec e5 (by simp) fun z6 e6 b6 => ?_
  have b6 : Heap.SameBut e z5 z6 := b6
  have e6 : IsEnumOut z6 e it ((j : Int) + 1) x hp.objs.size := e6
  refine wpAny_setField_rec e6 (by simp) fun z7 e7 b7 => ?_
  have b7 : Heap.SameBut e z6 z7 := b7
  have e7 : IsEnumOut z7 e it ((j : Int) + 1) x hp.objs.size := e7
  have all : ∀ b, b ≠ e → z7.get? b = z4.get? b := fun b n => (b7.2 b n).trans ((b6.2 b n).trans (b5.2 b n))
  refine wpAny_bind <| wpAny_letGo <| wpAny_pure ⟨_, rfl, kq z7 e7 ?_ ((all _ (Nat.ne_of_gt lt)).trans T4) (((b7.1.trans b6.1).trans b5.1).trans s4) fun b o n1 n2 g => (all b n1).trans (k4 b o n1 n2 g)⟩
  obtain ⟨o, g, r⟩ := i4
  exact ⟨o, (all it ni).trans g, r⟩
theorem en_next {e it t : Addr} {j : Nat} {its : Array Value} {x old : Value} {Q : Option Value → Shared → Prop} (ge : IsEnum s.heap e it j old) (gi : s.heap.IsTupleIter it t j) (gt : s.heap.IsTuple t its) (gx : its[j]? = some x) (ne : e ≠ it)
    (kq : ∀ z, IsEnumOut z e it ((j : Int) + 1) x s.heap.objs.size → z.IsTupleIter it t (j + 1) → z.get? s.heap.objs.size = some { cls := .type "tuple", data := .seq #[.int j s.toks, x] } →
      z.objs.size = s.heap.objs.size + 1 → (∀ b o, b ≠ e → b ≠ it → s.heap.get? b = some o → z.get? b = some o) → Q (some (.ref s.heap.objs.size)) { s with heap := z, toks := s.toks + 1 }) : wpAny (model prog w) A (pyNext (.ref e)) Q E s := by
  have ty : s.TypeIs (.ref e) "enumerate" := ⟨_, ge, rfl⟩
  unfold pyNext
  refine wpAny_bind <| wpAny_attempt <| wpAny_callSpecial?_slot (name := Str.ofString "__next__") ty F.slot_enumerate_next <| wpAny_call_entry F.slot_enumerate_next ty F.entry_enumerate_next ?_ (F.args_enumerate_next_1 _)
  exact en_turn ge gi gt gx ne fun z a b c d f => wpAny_pure (kq z a b c d f)
theorem en_stop {e it t : Addr} {j : Nat} {its : Array Value} {old : Value} {Q : Option Value → Shared → Prop} (nh : A.handled = none) (ge : IsEnum s.heap e it j old) (gi : s.heap.IsTupleIter it t j) (gt : s.heap.IsTuple t its) (gx : its[j]? = none)
    (kq : ∀ z, Heap.ExtBut it s.heap z → Q none { s with heap := z }) : wpAny (model prog w) A (pyNext (.ref e)) Q E s := by
  have ty : s.TypeIs (.ref e) "enumerate" := ⟨_, ge, rfl⟩
  unfold pyNext
  refine wpAny_bind <| wpAny_attempt <| wpAny_callSpecial?_slot (name := Str.ofString "__next__") ty F.slot_enumerate_next <| wpAny_call_entry F.slot_enumerate_next ty F.entry_enumerate_next ?_ (F.args_enumerate_next_1 _)
  show wpAny _ _ (do let y ← field (.ref e) 2; _) _ _ _
  refine wpAny_bind <| wpAny_field ge rfl (x := .ref it) rfl ?_
  refine wpAny_bind <| nx_tup_end nh gi gt gx fun z x kx ⟨o, g, c⟩ => ?_
  refine wpAny_bind <| wpAny_isInstance (T := "StopIteration") (b := true) ⟨o, g, c⟩ isSubtype_stop ?_
  exact wpAny_pure (kq _ kx)
/-- what enumerate(a tuple) makes -/
theorem en_meets (t : Addr) (its : Array Value) (n : Nat) (dct : Option Addr) (sl : Array (Option Value)) :
    Meets (Builtin.«enumerate.__new__» ⟨[.type "enumerate", .ref t], []⟩) (fun _ R s => s.heap.get? t = some { cls := .type "tuple", dict := dct, data := .seq its n, slots := sl } ∧
      R (.ok (.ret (.ref (s.heap.push { cls := .type "tuple_iterator", data := .fields #[.ref t, .int 0 0] }).objs.size)))
        { s with heap := (s.heap.push { cls := .type "tuple_iterator", data := .fields #[.ref t, .int 0 0] }).push { cls := .type "enumerate", data := .fields #[.none, .bool false, .ref s.heap.objs.size, rawInt 0, .none, .none] } }) :=
  .of_wp fun prog w A R s h => by
    obtain ⟨hp, gn, dr, tk, os⟩ := s
    obtain ⟨gT, h⟩ := h
    have sb := sub_enumerate
    have gt : Heap.IsTuple (Shared.heap ⟨hp, gn, dr, tk, os⟩) t its := ⟨_, gT, rfl, n, rfl⟩
    wp_walk using wpAny_loadPart' gT
    refine wpAny_stack_any fun _ => wpAny_pure ?_
    split
    · rename_i c _ _ _ _ _
      cases (c == Value.type "enumerate") <;> (wp_walk using wpAny_loadPart' gT, wpAny_pyIter_tuple gt; exact ⟨_, rfl, h⟩)
    · wp_walk using wpAny_loadPart' gT, wpAny_pyIter_tuple gt
      exact ⟨_, rfl, h⟩
theorem en_call {t : Addr} {its : Array Value} {Q : Value → Shared → Prop} (gt : s.heap.IsTuple t its)
    (k : ∀ z, IsEnum z (s.heap.objs.size + 1) s.heap.objs.size 0 .none → z.IsTupleIter s.heap.objs.size t 0 → z.objs.size = s.heap.objs.size + 2 → (∀ b o, s.heap.get? b = some o → z.get? b = some o) → Q (.ref (s.heap.objs.size + 1)) { s with heap := z }) :
    wpAny (model prog w) A (call (.type "enumerate") [.ref t]) Q E s := by
  obtain ⟨⟨c, dct, dt, sl⟩, g, gc, n, gd⟩ := gt
  have gc : c = .type "tuple" := gc
  have gd : dt = .seq its n := gd
  subst gc gd
  refine callType_new F.called_enumerate (by decide) (F.typeCall_enumerate_1 _) (F.newCall_enumerate_1 _) (fun o => F.args_object_init_2 o _) F.entry_enumerate_new (en_meets t its n dct sl) ⟨g, ?_⟩
  obtain ⟨z1, h1⟩ : ∃ z, z = s.heap.push { cls := .type "tuple_iterator", data := .fields #[.ref t, .int 0 0] } := ⟨_, rfl⟩
  have s1 : z1.objs.size = s.heap.objs.size + 1 := by rw [h1]; exact Heap.size_push ..
  obtain ⟨z2, h2⟩ : ∃ z, z = z1.push { cls := .type "enumerate", data := .fields #[.none, .bool false, .ref s.heap.objs.size, rawInt 0, .none, .none] } := ⟨_, rfl⟩
  have g2 : IsEnum z2 (s.heap.objs.size + 1) s.heap.objs.size 0 .none := by
    rw [h2, ← s1]
    exact Heap.get?_push_size _ rfl
  show _ ∧ _
  rw [← h1, s1, ← h2]
  refine ⟨⟨_, g2, rfl⟩, k _ g2 ⟨{ cls := .type "tuple_iterator", data := .fields #[.ref t, .int 0 0] }, ?_, rfl, rfl⟩ (by rw [h2, Heap.size_push, s1]) fun b o q => by rw [h2, h1]; exact Heap.get?_push_of_some _ (Heap.get?_push_of_some _ q)⟩
  rw [h2, h1]
  exact Heap.get?_push_of_some _ (Heap.get?_push_size _ rfl)
end
/-- the tuple at a, each item in a new pair with its number -/
def Iten (K : PySem.W.Frag) (a : Addr) : It :=
  ⟨fun i H => ∃ (ys : List V) (y : V), SqT K H a ys ∧ ys[i]? = some y, fun i H v H1 => ∃ p y, v = .ref p ∧ H p = none ∧ H1 = upd H p (.tup [.int (i : Nat), y]) ∧ ∀ ys, SqT K H a ys → ys[i]? = some y, fun i H => ∃ ys : List V, SqT K H a ys ∧ ys.length ≤ i⟩
theorem turn_en {P : Program} {w : World} {K : PySem.W.Frag} {es : List Expr} {kk : Nat} {tp : Pos} (a e it : Addr) :
    Turn P w K (.Tuple es kk tp) (Iten K a) [e, it] e (fun i h => (∃ old, IsEnum h e it ((i : Nat) : Int) old) ∧ h.IsTupleIter it a i ∧ e ≠ it) where
  mem := List.mem_cons_self ..
  obj := by
    intro i h st b hb
    obtain ⟨⟨old, g⟩, ⟨o, g2, _, gd⟩, _⟩ := st
    rcases List.mem_cons.mp hb with z | z
    · subst z
      exact ⟨_, g, fun v q => by cases q⟩
    · have z := List.mem_singleton.mp z
      subst z
      exact ⟨o, g2, fun v q => by rw [gd] at q; cases q⟩
  keep := fun i h h' st k => let ⟨⟨old, g⟩, gi, ne⟩ := st
    ⟨⟨old, k e (by simp) _ g⟩, gi.at fun o q => k it (by simp) o q, ne⟩
  item := by
    intro X hP hw hK hc i pins s σ H E I hf st hg
    subst hP hw hK
    obtain ⟨⟨old, ge⟩, gi, ne⟩ := st
    obtain ⟨ys, y, hq, hy⟩ := hg
    obtain ⟨its, rv, p, hz⟩ := I.tuple hq
    obtain ⟨u, hu, ru⟩ := rv.get hy
    have le : e < s.heap.objs.size := Heap.lt_size ge
    have li : it < s.heap.objs.size := by obtain ⟨_, q, _⟩ := gi; exact Heap.lt_size q
    have lb : ∀ b, b ∈ [e, it] → b < s.heap.objs.size := by
      intro b hb
      rcases List.mem_cons.mp hb with z | z
      · exact z ▸ le
      · exact List.mem_singleton.mp z ▸ li
    refine en_next ge gi (show s.heap.IsTuple a its.toArray from p) (x := u) (by simpa using hu) ne fun z1 g1 i1 T1 _ k1 => ?_
    refine ⟨_, rfl, wpAny_letOwnedTupleGo_enum (s := { s with heap := z1, toks := s.toks + 1 }) g1 fun z2 g2 sb => ?_⟩
    have T2 : z2.get? s.heap.objs.size = some { cls := .type "tuple", data := .seq #[.int i s.toks, u] } := (sb.2 _ (Nat.ne_of_gt le)).trans T1
    have ok : ObjOk X.prog X.w (upd H s.heap.objs.size (.tup [.int (i : Nat), y])) z2 s.heap.objs.size (.tup [.int (i : Nat), y]) := ⟨by show 2 ≤ sizeLine; decide, [.int i s.toks, u], .cons ⟨_, rfl⟩ (.cons ru .nil), ⟨_, T2, rfl, _, rfl⟩⟩
    have kk : ∀ b ob, b ∉ [e, it] → s.heap.get? b = some ob → z2.get? b = some ob := fun b ob hb q => (sb.2 b fun z => hb (by simp [z])).trans (k1 b ob (fun z => hb (by simp [z])) (fun z => hb (by simp [z])) q)
    have J : Inv X pins σ (upd H s.heap.objs.size (.tup [.int (i : Nat), y])) { s with heap := z2, toks := s.toks + 1 } := I.turnedNew (ch := [e, it]) kk hf (Nat.le_refl _) ok
    refine ⟨.ref s.heap.objs.size, _, J, rfl, ⟨_, y, rfl, I.hok.fresh (Nat.le_refl _), rfl, fun zs h => by rw [I.tuple_inj h hq]; exact hy⟩, ⟨⟨u, ?_⟩, i1.at fun o q => (sb.2 it (Ne.symm ne)).trans q, ne⟩, fun b hb => ?_⟩
    · rw [show ((i + 1 : Nat) : Int) = (i : Int) + 1 by omega]
      exact g2
    · rw [upd_ne (Nat.ne_of_lt (lb b hb))]
      exact (hf b hb).1
  done := by
    intro X hP hw hK hc i pins s σ H E I hf st hg
    subst hP hw hK
    obtain ⟨⟨old, ge⟩, gi, ne⟩ := st
    obtain ⟨ys, hq, hy⟩ := hg
    obtain ⟨its, rv, p, hz⟩ := I.tuple hq
    obtain ⟨f0, f1, f2, f3, f4, f5⟩ := hf it (by simp)
    have hl := rv.length
    exact en_stop (I.ok.hd hc) ge gi (show s.heap.IsTuple a its.toArray from p) (by simp; omega) fun z eb => ⟨rfl, I.turned (t' := s.toks) (fun b o hb q => eb b o hb q) f0 f1 f3 f4 f5⟩
  self := fun A i s Q E st h => let ⟨⟨_, g⟩, _⟩ := st
    wpAny_pyIter_enum g h
def iEnT (K : PySem.W.Frag) (ta : TA) : TI := fun σ H R => ta σ H fun vs H1 => ∃ a, vs = [.ref a] ∧ (∃ ys, SqT K H1 a ys) ∧ R (Iten K a) H1
theorem pi_en {X : Cx} {e : Expr} {ta : TA} {p pos tp : Pos} {es : List Expr} {kk : Nat} (hg : Gl X "enumerate") (hm : X.mg "enumerate" = none) (ha : PA X [e] ta) (hs : starEach [e] X.env = [(false, eval e X.env)]) :
    PI X (.Tuple es kk tp) (.Call (.Name "enumerate" p) [e] [] pos) (iEnT X.K ta) := by
  refine ⟨fun pins s σ H R I h => ?_⟩
  refine Call_ (ld_blt I hg hm boot_enumerate (PyProof.Rows.callWith_type1 (thn (ha.run pos pins s σ H _ I h) fun us s1 ⟨vs, H1, J, rv, q⟩ => ?_) hs rfl))
  obtain ⟨a, ev, ⟨ys, hq⟩, q⟩ := q
  subst ev
  cases rv with
  | cons r rr =>
    cases rr
    cases r
    obtain ⟨its, rv, p', hz⟩ := J.tuple hq
    refine en_call (show s1.heap.IsTuple a its.toArray from p') fun z g gi _ k => wpAny_pyIter_enum g ?_
    have J2 : Inv X pins σ H1 { s1 with heap := z } := J.kept (t' := s1.toks) k
    refine ⟨s1.heap.objs.size + 1, [s1.heap.objs.size + 1, s1.heap.objs.size], _, _, H1, rfl, J2, turn_en a (s1.heap.objs.size + 1) s1.heap.objs.size, ⟨⟨.none, g⟩, gi, Nat.succ_ne_self _⟩, fun b hb => ?_, q⟩
    have lb : s1.heap.objs.size ≤ b := by
      rcases List.mem_cons.mp hb with z | z
      · exact z ▸ Nat.le_add_right _ _
      · exact List.mem_singleton.mp z ▸ Nat.le_refl _
    exact J.fpOk lb (J.hok.fresh lb)
theorem enumD_get : ∀ {ds : List D} {j i : Nat}, (enumD j ds)[i]? = (ds[i]?).map fun d => D.tup [.int ((j + i : Nat) : Int), d]
  | [], j, i => by simp [enumD]
  | d :: ds, j, 0 => by simp [enumD]
  | d :: ds, j, i + 1 => by
    rw [enumD, List.getElem?_cons_succ, enumD_get, List.getElem?_cons_succ, show j + 1 + i = j + (i + 1) by omega]
theorem enumD_len : ∀ {ds : List D} {j : Nat}, (enumD j ds).length = ds.length
  | [], j => rfl
  | d :: ds, j => by rw [enumD, List.length_cons, List.length_cons, enumD_len]
theorem src_en {cls : Nat → Option Addr} {K : PySem.W.Frag} {ρ : List Addr} {H : Hp} {a : Addr} {xs : List V} {ds : List D} (hq : SqT K H a xs) (r : RDs K ρ H ds xs) : IsSrc K cls ρ H (.ds (enumD 0 ds)) (Iten K a) := by
  intro ρ' H' h' ds' x k hr e i
  cases e
  have q' := k.sqT hq
  rw [enumD_get, enumD_len]
  refine ⟨fun d hd => ?_, fun hi => ⟨xs, q', by rw [r.length]; exact hi⟩⟩
  obtain ⟨d0, h0, rfl⟩ := Option.map_eq_some_iff.mp hd
  obtain ⟨v, h1, h2⟩ := r.get h0
  refine ⟨⟨xs, v, q', h1⟩, fun y H2 hy => ?_⟩
  obtain ⟨p, u, rfl, hp, rfl, hu⟩ := hy
  have e1 := hu xs q'
  rw [h1] at e1
  cases e1
  have kf : Keep H' (upd H' p (.tup [.int (i : Nat), v])) := Keep.fresh hp
  refine ⟨kf, hr.fresh hp, ?_⟩
  rw [RD]
  refine ⟨p, [.int (i : Nat), v], rfl, .inl (.inl upd_same), ?_⟩
  rw [RDs]
  refine ⟨_, _, rfl, ?_, ?_⟩
  · rw [Nat.zero_add]
    exact RD.int
  · rw [RDs]
    exact ⟨_, _, rfl, h2.mono x (k.trans kf), by rw [RDs]⟩
end Rf

namespace Rf
open PySem PySem.Spec PyProof.Rows L2

/-! ### the promise of a def -/
def spD (K : PySem.W.Frag) (cls : Nat → Option Addr) (cal : Cal) (i : Nat) : Sp := fun vs H Q _ => ∃ ρ ds h, RDs K ρ H ds vs ∧ HR K cls ρ H h ∧ FinG K cls (RD K) ρ H Q (cal i ds h)

structure Names where
  N : List Str
  defs : List (Str × List Str × Bool)
  kws : List (Nat × Nat × List Str × List Nat)
  consts : List (Str × D)
def gK {α : Type} (n m : Nat) (p : List Nat) (us ws : List α) : List α := if us.length = n ∧ ws.length = m then p.filterMap fun i => (us ++ ws)[i]? else []
def bltNames : List Str := ["len", "abs", "int", "list", "tuple", "sum", "max", "min", "dict", "isinstance", "bool", "str", "range", "enumerate", "zip"]

/-- what the code leans on, where a def's body (or a comprehension's block) stands -/
structure Good (X : Cx) (cls : Nat → Option Addr) (Γ : Names) (cal : Cal) (k : Nat) : Prop where
  calm : X.calm = true
  nd : X.N.Nodup
  N : X.N = Γ.N
  room : Room k X.A
  xe : X.xe = fun _ _ => False
  fns : ∀ i nm ps pl, Γ.defs[i]? = some (nm, ps, pl) → ∃ f fd, X.mg nm = some (.ref f) ∧ PySem.W.keepIn X.K (.ref f) = true ∧ (pl = true → Binds X.K fd ps []) ∧ FnOk X.prog X.w X.K X.mg X.base CX0 k f fd ps (spD X.K cls cal i) ∧
    ∀ n ks p, (i, n, ks, p) ∈ Γ.kws → KBinds X.K fd ps ks (gK n ks.length p) (gK n ks.length p)
  bl : ∀ x ∈ bltNames, X.mg x = none
  cst : ∀ x d, Γ.consts.lookup x = some d → ∃ u v, X.mg x = some u ∧ RelV v u ∧ ∀ ρ H, RD X.K ρ H d v

/-! ### what the checker asks of names -/
def isVis (sc : Scope) (x : Str) : Bool := match sc.names.lookup x with
  | some .local => true | some .cell => true | some .free => true | _ => false
def isLocal (sc : Scope) (x : Str) : Bool := match sc.names.lookup x with
  | some .local => true | _ => false
def isGl (sc : Scope) (x : Str) : Bool := match sc.names.lookup x with
  | some .globalImplicit => true | _ => false
def okName (x : Str) : Bool := !(x == ("__debug__" : Str)) && !(x == ("__classdict__" : Str)) && !(x == ("__name__" : Str))
theorem isVis_ok {sc : Scope} {x : Str} (h : isVis sc x = true) : Vis sc x := by
  unfold isVis at h
  split at h
  · exact .inl (by assumption)
  · exact .inr (.inl (by assumption))
  · exact .inr (.inr (by assumption))
  · cases h
theorem isLocal_ok {sc : Scope} {x : Str} (h : isLocal sc x = true) : sc.names.lookup x = some .local := by
  unfold isLocal at h
  split at h
  · assumption
  · cases h
theorem isGl_ok {X : Cx} {x : Str} (h : isGl X.env.scope x = true) : Gl X x := by
  unfold isGl at h
  split at h
  · assumption
  · cases h
theorem okName_ok {x : Str} (h : okName x = true) : (x == ("__debug__" : Str)) = false ∧ (x == ("__classdict__" : Str)) = false ∧ x ≠ "__name__" := by
  unfold okName at h
  simp only [Bool.and_eq_true, Bool.not_eq_true'] at h
  exact ⟨h.1.1, h.1.2, fun e => by subst e; simp at h⟩
def ixOf (N : List Str) (x : Str) : Option Nat := N.findIdx? fun y => decide (y = x)
theorem ixOf_ok {N : List Str} {x : Str} {i : Nat} (h : ixOf N x = some i) : N[i]? = some x := by
  obtain ⟨h1, h2, _⟩ := List.findIdx?_eq_some_iff_getElem.mp h
  rw [List.getElem?_eq_getElem h1]
  simpa using h2

/-! ### syntax that no rule of its own speaks of -/
def plainE : Expr → Bool
  | .Starred .. => false | .ListComp .. => false | .SetComp .. => false | .DictComp .. => false | .Slice .. => false | .Set .. => false
  | _ => true
def notStar : Expr → Bool
  | .Starred .. => false | _ => true
theorem starEach_ok {e : Expr} {es : List Expr} {env : Env} (h : notStar e = true) : starEach (e :: es) env = (false, eval e env) :: starEach es env := by
  cases e <;> first | (cases h; done) | simp only [starEach]
theorem behind_ok {op : CmpOp} {e : Expr} (h : plainE e = true) : behindInMarks op e = false := by
  cases e <;> first | (cases h; done) | rfl
theorem last2_ok {op op' : CmpOp} {b c : Expr} (h : plainE c = true) : lastMarks [op, op'] [b, c] = false := by
  simp only [lastMarks]
  exact behind_ok h
theorem swaps_ok {e : Expr} {t : Option Expr} {l : Nat} {env : Env} (h : plainE e = true) : swapsWith e t l env = pure false := by
  cases e <;> first | (cases h; done) | rfl
theorem sub_ok {e : Expr} (h : plainE e = true) : PlainIx e := fun o i => by
  cases e <;> first | (cases h; done) | rfl
def plainT : Expr → Bool
  | .UnaryOp .Not _ _ => false | .BoolOp .. => false | .IfExp .. => false | .Compare .. => false
  | _ => true
theorem isTrue_ok {e : Expr} {env : Env} (h : plainT e = true) (whole : Sem Value) : PySem.isTrue e env whole = (do let v ← whole; standAt e.pos; holding [v] (truthy v)) := by
  cases e with
  | UnaryOp op a pos => cases op <;> first | (cases h; done) | simp only [PySem.isTrue]
  | BoolOp => cases h
  | IfExp => cases h
  | Compare => cases h
  | _ => simp only [PySem.isTrue]
def baseOk : Expr → Bool
  | .Call .. => false | _ => true
theorem base_ok {o : Expr} {m : Str} {env : Env} (h : baseOk o = true) : attributeBase o m env (eval o env) = eval o env := by
  cases o <;> first | (cases h; done) | rfl
def starsOk (es : List Expr) : Bool := es.all notStar
theorem starsAny_ok {pos : Pos} {env : Env} : ∀ {es : List Expr}, starsOk es = true → (backTo pos (starEach es env)).any (·.1) = false
  | [], _ => rfl
  | e :: es, h => by
    unfold starsOk at h
    simp only [List.all_cons, Bool.and_eq_true] at h
    rw [starEach_ok h.1]
    have := starsAny_ok (pos := pos) (env := env) (es := es) h.2
    simpa [backTo] using this

/-! ### the checker -/
def compL (f : Expr → Option CE) : List Expr → Option CE
  | [] => some .an
  | e :: es => if notStar e then (match f e, compL f es with
    | some a, some b => some (.ac a b)
    | _, _ => none) else none
def compB (op : BoolOp) (f : Expr → Option CE) : List Expr → Option CE
  | [] => none
  | [e] => f e
  | e :: es => match f e, compB op f es with
    | some a, some b => some (match op with | .And => .and a b | .Or => .or a b)
    | _, _ => none
def bltOf (x : Str) (n : Nat) : Option Blt :=
  if n = 1 then
    if x = "len" then some .len else if x = "abs" then some .abs else if x = "int" then some .int else if x = "list" then some .list
    else if x = "tuple" then some .tuple else if x = "sum" then some .sum else if x = "max" then some .max else if x = "min" then some .min
    else none
  else if n = 2 then (if x = "max" then some .max2 else if x = "min" then some .min2 else none) else none
def tyOf (x : Str) : Option Ty :=
  if x = "int" then some .int else if x = "bool" then some .bool else if x = "str" then some .str else if x = "tuple" then some .tuple else if x = "list" then some .list else none
def mthOf (x : Str) (n : Nat) : Option Mth :=
  if x = "append" ∧ n = 1 then some .append else if x = "extend" ∧ n = 1 then some .extend else if x = "pop" ∧ n = 0 then some .pop else if x = "index" ∧ n = 1 then some .index
  else if x = "get" ∧ n = 1 then some .get1 else if x = "get" ∧ n = 2 then some .get2 else none
def constOf : Const → Option D
  | .int i => some (.int i)
  | .bool b => some (.bl b)
  | .none => some .non
  | .str s => some (.str s.cps.toList)
  | _ => none
/-- what a loop walks -/
def rangeArgs (sc : Scope) : Expr → Option (List Expr)
  | .Call (.Name x _) args [] _ => if x = "range" ∧ isGl sc "range" = true then some args else none
  | _ => none
def notSet : Expr → Bool
  | .Set .. => false | .Starred .. => false | _ => true
theorem folded_ok {e : Expr} {env : Env} (h : notSet e = true) (x : Value) : foldedSetIterable e env x = pure x := by
  cases e <;> first | (cases h; done) | rfl
def enumArg (sc : Scope) (tg : Expr) : Expr → Option Expr
  | .Call (.Name x _) [a] [] _ => if x = "enumerate" ∧ isGl sc "enumerate" = true then (match tg with | .Tuple _ _ _ => some a | _ => none) else none
  | _ => none
def compSrc (f : Expr → Option CE) (sc : Scope) (tg e : Expr) : Option (IK × CE) :=
  match rangeArgs sc e with
  | some [a] => (compL f [a]).map fun c => (.rng1, c)
  | some [a, b] => (compL f [a, b]).map fun c => (.rng2, c)
  | some _ => none
  | none => match enumArg sc tg e with
    | some a => (compL f [a]).map fun c => (.enum, c)
    | none => if notSet e then (f e).map fun c => (.seq, .ac c .an) else none
def isLoc (sc : Scope) (x : Str) : Bool := match sc.names.lookup x with
  | some .local => true | some .cell => true | _ => false
theorem isLoc_ok {sc : Scope} {x : Str} (h : isLoc sc x = true) : Loc sc x := by
  unfold isLoc at h
  split at h
  · exact .inl (by assumption)
  · exact .inr (by assumption)
  · cases h
def tgName (N : List Str) (ok : Str → Bool) : Expr → Option Nat
  | .Name x _ => if ok x then ixOf N x else none
  | _ => none
def compTg (N : List Str) (ok : Str → Bool) : Expr → Option Tg
  | .Name x p => (tgName N ok (.Name x p)).map .one
  | .Tuple es _ _ => (mapO (tgName N ok) es).map .tup
  | _ => none
def ownOf (N : List Str) (scope : Scope) : Option (List (Str × Nat)) :=
  some ((scope.names.filter fun y => y.2 == .local || y.2 == .cell).filterMap fun y => (ixOf N y.1).map fun i => (y.1, i))
end Rf

namespace Rf
open PySem PySem.Spec PyProof.Rows L2
variable {X : Cx} {cls : Nat → Option Addr} {cal : Cal}

/-! ### expressions -/
section
variable {a b c : Expr} {fa fb fc : Env' → AH → Rs D} {pos : Pos}
theorem cp_var {i : Nat} {x : Str} (hN : X.N[i]? = some x) (hv : isVis X.env.scope x = true) (ho : okName x = true) : PE X (.Name x pos) (tE X.K cls (ev cal (.var i))) := by
  obtain ⟨h1, h2, _⟩ := okName_ok ho
  refine PE.imp (pe_var hN (isVis_ok hv) h1 h2) fun σ H Q ⟨ρ, env, h, er, hr, hf⟩ => ?_
  rw [ev] at hf
  split at hf
  · rename_i d hd
    obtain ⟨v, g1, g2⟩ := er.get i d hd
    exact ⟨v, g1, hf.self g2 hr⟩
  · exact hf.elim
theorem cp_cst {d : D} {v : V} {e : Expr} (h : PE X e (tC v)) (r : ∀ ρ H, RD X.K ρ H d v) : PE X e (tE X.K cls (ev cal (.cst d))) := by
  refine PE.imp h fun σ H Q ⟨ρ, env, h, er, hr, hf⟩ => ?_
  rw [ev] at hf
  exact hf.self (r ρ H) hr
/-- a two-place operation, in whatever syntax it stands -/
theorem cp_two {e : Expr} {r : R2} {g : D → D → AH → Rs D} (h : PE X e (tOp r (tE X.K cls fa) (tE X.K cls fb))) (hg : ∀ x y H Q, r2 X.K cls g x y H Q → r x y H Q) : PE X e (tE X.K cls fun env h => (fa env h).bind fun x h1 => (fb env h1).bind fun y h2 => g x y h2) := by
  refine PE.imp h fun σ H Q ⟨ρ, env, h, er, hr, hf⟩ => ?_
  refine tG.bind er hr hf fun x H1 ρ1 d1 h1 x1 k1 rx hr1 er1 hf1 => ?_
  refine tG.bind er1 hr1 hf1 fun y H2 ρ2 d2 h2 x2 k2 ry hr2 er2 hf2 => ?_
  exact hg _ _ _ _ ⟨ρ2, h2, d1, d2, hr2, rx.mono x2 k2, ry, hf2⟩
theorem cp_bin {op : Operator} {o : Bop} {ca cb : CE} (e : bopOf op = some o) (ha : PE X a (tE X.K cls (ev cal ca))) (hb : PE X b (tE X.K cls (ev cal cb))) : PE X (.BinOp a op b pos) (tE X.K cls (ev cal (.bin o ca cb))) := by
  have := cp_two (g := binD o) (pe_op (pos := pos) (ob_all (cls := cls) e) ha hb) fun _ _ _ _ q => q
  refine PE.imp this fun σ H Q q => ?_
  unfold tE tG at q ⊢
  simpa only [ev] using q
theorem cp_cmp {op : CmpOp} {o : Cop} {ca cb : CE} (hu : X.A.units + 66 < cLine) (e : copOf op = some o) (hp : plainE b = true) (ha : PE X a (tE X.K cls (ev cal ca))) (hb : PE X b (tE X.K cls (ev cal cb))) : PE X (.Compare a [op] [b] pos) (tE X.K cls (ev cal (.cmp o ca cb))) := by
  have := cp_two (g := cmpD o) (pe_cmpR (pos := pos) (oc_all (cls := cls) hu e) ha hb (behind_ok hp)) fun _ _ _ _ q => q
  refine PE.imp this fun σ H Q q => ?_
  unfold tE tG at q ⊢
  simpa only [ev] using q
theorem cmpD_bl {o : Cop} {x y : D} {h h1 : AH} {d : D} (e : cmpD o x y h = .ok d h1) : ∃ k, d = .bl k := by
  have hO : ∀ {f : Bool → Bool} {q : Option Bool}, ofO (q.map fun x => D.bl (f x)) h = .ok d h1 → ∃ k, d = .bl k := fun {f q} e => by
    cases q with
    | none => cases e
    | some b => exact ⟨f b, by injection e with e1 _; exact e1.symm⟩
  cases o <;> simp only [cmpD] at e
  · exact hO (f := id) e
  · exact hO e
  all_goals first
    | exact hO (f := id) e
    | exact hO e
    | (split at e
       · exact ⟨_, by injection e with e1 _; exact e1.symm⟩
       · cases e)
/-- a test out of a value that is a bool -/
theorem pt_of {e : Expr} {t : TE} {f : Env' → AH → Rs D} (h : PT X e (tTest t)) (ht : ∀ σ H Q, tE X.K cls f σ H Q → t σ H Q) (hb : ∀ env h d h1, f env h = .ok d h1 → ∃ k, d = .bl k) :
    PT X e (tT X.K cls fun env h => (f env h).bind fun x h1 => ofO (truD h1 x) h1) := by
  refine PT.imp h fun σ H Q ⟨ρ, env, h, er, hr, hf⟩ => ht _ _ _ ⟨ρ, env, h, er, hr, ?_⟩
  dsimp only at hf
  cases q : f env h with
  | ex _ _ => rw [q] at hf; exact hf
  | no => rw [q] at hf; exact hf
  | ok d h1 =>
    rw [q] at hf
    obtain ⟨k, rfl⟩ := hb _ _ _ _ q
    intro v H' ρ' x kk rv hr'
    exact ⟨k, rv.bl_e, hf k H' ρ' x kk rfl hr'⟩
theorem ct_cmp {op : CmpOp} {o : Cop} {ca cb : CE} (hu : X.A.units + 66 < cLine) (e : copOf op = some o) (hp : plainE b = true) (ha : PE X a (tE X.K cls (ev cal ca))) (hb : PE X b (tE X.K cls (ev cal cb))) : PT X (.Compare a [op] [b] pos) (tT X.K cls (evT cal (.cmp o ca cb))) := by
  refine pt_of (f := ev cal (.cmp o ca cb)) (pt_cmpR (pos := pos) (oc_all (cls := cls) hu e) ha hb (behind_ok hp)) (fun σ H Q ⟨ρ, env, h, er, hr, hf⟩ => ?_) fun env h d h1 q => ?_
  · rw [ev] at hf
    refine tG.bind er hr hf fun x H1 ρ1 d1 h1 x1 k1 rx hr1 er1 hf1 => ?_
    refine tG.bind er1 hr1 hf1 fun y H2 ρ2 d2 h2 x2 k2 ry hr2 er2 hf2 => ?_
    exact ⟨ρ2, h2, d1, d2, hr2, rx.mono x2 k2, ry, hf2⟩
  · rw [ev] at q
    cases q1 : ev cal ca env h with
    | ex _ _ => rw [q1] at q; cases q
    | no => rw [q1] at q; cases q
    | ok x h2 =>
      rw [q1] at q
      simp only [Rs.bind] at q
      cases q2 : ev cal cb env h2 with
      | ex _ _ => rw [q2] at q; cases q
      | no => rw [q2] at q; cases q
      | ok y h3 => rw [q2] at q; exact cmpD_bl q
/-- is None -/
theorem isN_red {n : Bool} {f : Env' → AH → Rs D} {env : Env'} {h : AH} {Q : VK} {ρ : List Addr} {H : Hp} {d : D} {x : V} (hr : HR X.K cls ρ H h)
    (hf : FinG X.K cls (RD X.K) ρ H Q (match d with
      | .non => .ok (.bl (!n)) h
      | _ => .ok (.bl n) h)) (rx : RD X.K ρ H d x) : Q (.bl (if n then !decide (x = .non) else decide (x = .non))) H := by
  cases d <;> first
    | (have e := rx.non_e; subst e; have q := FinG.self hf RD.bl hr; cases n <;> exact q)
    | (have e := rx.bl_e; subst e; have q := FinG.self hf RD.bl hr; cases n <;> exact q)
    | (have e := rx.int_e; subst e; have q := FinG.self hf RD.bl hr; cases n <;> exact q)
    | (have e := rx.str_e; subst e; have q := FinG.self hf RD.bl hr; cases n <;> exact q)
    | (obtain ⟨_, _, e, _⟩ := rx.tup_e; subst e; have q := FinG.self hf RD.bl hr; cases n <;> exact q)
    | (obtain ⟨_, _, e, _⟩ := rx.fro_e; subst e; have q := FinG.self hf RD.bl hr; cases n <;> exact q)
    | (obtain ⟨_, _, e⟩ := rx.ref_e; subst e; have q := FinG.self hf RD.bl hr; cases n <;> exact q)
def rIsN (n : Bool) : R2 := fun x y H Q => y = .non ∧ Q (.bl (if n then !decide (x = .non) else decide (x = .non))) H
theorem op_isNon : OpR X (compareOp .Is) (rIsN false) := op_isN
theorem op_notNon : OpR X (compareOp .IsNot) (rIsN true) := op_notN
def opN (n : Bool) : CmpOp := if n then .IsNot else .Is
theorem op_N (n : Bool) : OpR X (compareOp (opN n)) (rIsN n) := by
  cases n
  · exact op_isNon
  · exact op_notNon
theorem isN_ok {n : Bool} {ca : CE} : ∀ σ H Q, tE X.K cls (ev cal (.isN n ca)) σ H Q → tOp (rIsN n) (tE X.K cls (ev cal ca)) (tC .non) σ H Q := fun σ H Q ⟨ρ, env, h, er, hr, hf⟩ => by
  rw [ev] at hf
  refine tG.bind er hr hf fun x H1 ρ1 d1 h1 x1 k1 rx hr1 er1 hf1 => ⟨rfl, ?_⟩
  exact isN_red (f := ev cal ca) (env := env) hr1 hf1 rx
theorem cp_isN {n : Bool} {ca : CE} {j pos'} (ha : PE X a (tE X.K cls (ev cal ca))) : PE X (.Compare a [opN n] [.Constant .none j pos'] pos) (tE X.K cls (ev cal (.isN n ca))) :=
  PE.imp (pe_cmpR (op_N n) ha pe_non rfl) isN_ok
theorem ct_isN {n : Bool} {ca : CE} {j pos'} (ha : PE X a (tE X.K cls (ev cal ca))) : PT X (.Compare a [opN n] [.Constant .none j pos'] pos) (tT X.K cls (evT cal (.isN n ca))) := by
  refine pt_of (f := ev cal (.isN n ca)) (pt_cmpR (op_N n) ha pe_non rfl) isN_ok fun env h d h1 q => ?_
  rw [ev] at q
  cases q1 : ev cal ca env h with
  | ex _ _ => rw [q1] at q; cases q
  | no => rw [q1] at q; cases q
  | ok x h2 =>
    rw [q1] at q
    simp only [Rs.bind] at q
    split at q <;> exact ⟨_, by injection q with e1 _; exact e1.symm⟩
/-- a chain -/
theorem chain_ok {o o' : Cop} {ca cb cc : CE} {r r' : R2} (hr' : ∀ x y H Q, r2 X.K cls (cmpD o) x y H Q → r x y H Q) (hr2 : ∀ x y H Q, r2 X.K cls (cmpD o') x y H Q → r' x y H Q) : ∀ σ H Q, tE X.K cls (ev cal (.chain o o' ca cb cc)) σ H Q → tChain r r' (tE X.K cls (ev cal ca)) (tE X.K cls (ev cal cb)) (tE X.K cls (ev cal cc)) σ H Q :=
  fun σ H Q ⟨ρ, env, h, er, hr, hf⟩ => by
  rw [ev] at hf
  refine tG.bind er hr hf fun x H1 ρ1 d1 h1 x1 k1 rx hr1 er1 hf1 => ?_
  refine tG.bind er1 hr1 hf1 fun y H2 ρ2 d2 h2 x2 k2 ry hr2' er2 hf2 => ?_
  refine hr' _ _ _ _ ⟨ρ2, h2, d1, d2, hr2', rx.mono x2 k2, ry, ?_⟩
  cases q : cmpD o d1 d2 h2 with
  | ex _ _ => rw [q] at hf2; exact hf2
  | no => rw [q] at hf2; exact hf2
  | ok d h3 =>
    rw [q] at hf2
    obtain ⟨k, rfl⟩ := cmpD_bl q
    intro v H3 ρ3 x3 k3 rv hr3
    refine ⟨k, rv.bl_e, ?_⟩
    have hf3 := FinG.weaken (R := RD X.K) hf2 x3 k3
    simp only [Rs.bind] at hf3
    cases k with
    | false => rw [if_neg Bool.false_ne_true]; exact FinG.self hf3 RD.bl hr3
    | true =>
      rw [if_pos rfl]
      refine tG.bind (er2.mono x3 k3) hr3 hf3 fun z H4 ρ4 d4 h4 x4 k4 rz hr4 er4 hf4 => ?_
      exact hr2 _ _ _ _ ⟨ρ4, h4, d2, d4, hr4, ry.mono (x3.trans x4) (k3.trans k4), rz, hf4⟩
theorem cp_chain {op op' : CmpOp} {o o' : Cop} {ca cb cc : CE} (hu : X.A.units + 66 < cLine) (e : copOf op = some o) (e' : copOf op' = some o') (hp : plainE c = true) (ha : PE X a (tE X.K cls (ev cal ca))) (hb : PE X b (tE X.K cls (ev cal cb))) (hc : PE X c (tE X.K cls (ev cal cc))) :
    PE X (.Compare a [op, op'] [b, c] pos) (tE X.K cls (ev cal (.chain o o' ca cb cc))) :=
  PE.imp (pe_chain (oc_all (cls := cls) hu e) (oc_all (cls := cls) hu e') ha hb hc (last2_ok hp)) (chain_ok (fun _ _ _ _ q => q) fun _ _ _ _ q => q)
theorem ct_chain {op op' : CmpOp} {o o' : Cop} {ca cb cc : CE} (hu : X.A.units + 66 < cLine) (e : copOf op = some o) (e' : copOf op' = some o') (hp : plainE c = true) (ha : PE X a (tE X.K cls (ev cal ca))) (hb : PE X b (tE X.K cls (ev cal cb))) (hc : PE X c (tE X.K cls (ev cal cc))) :
    PT X (.Compare a [op, op'] [b, c] pos) (tT X.K cls (evT cal (.chain o o' ca cb cc))) := by
  refine pt_of (f := ev cal (.chain o o' ca cb cc)) (pt_chain (oc_all (cls := cls) hu e) (oc_all (cls := cls) hu e') ha hb hc (last2_ok hp)) (chain_ok (fun _ _ _ _ q => q) fun _ _ _ _ q => q) fun env h d h1 q => ?_
  rw [ev] at q
  cases q1 : ev cal ca env h with
  | ex _ _ => rw [q1] at q; cases q
  | no => rw [q1] at q; cases q
  | ok x h2 =>
    rw [q1] at q
    simp only [Rs.bind] at q
    cases q2 : ev cal cb env h2 with
    | ex _ _ => rw [q2] at q; cases q
    | no => rw [q2] at q; cases q
    | ok y h3 =>
      rw [q2] at q
      simp only at q
      cases q3 : cmpD o x y h3 with
      | ex _ _ => rw [q3] at q; cases q
      | no => rw [q3] at q; cases q
      | ok w h4 =>
        rw [q3] at q
        obtain ⟨k, rfl⟩ := cmpD_bl q3
        cases k with
        | false => exact ⟨false, by injection q with e1 _; exact e1.symm⟩
        | true =>
          simp only at q
          cases q4 : ev cal cc env h4 with
          | ex _ _ => rw [q4] at q; cases q
          | no => rw [q4] at q; cases q
          | ok z h5 => rw [q4] at q; exact cmpD_bl q
theorem cp_neg {ca : CE} (ha : PE X a (tE X.K cls (ev cal ca))) : PE X (.UnaryOp .USub a pos) (tE X.K cls (ev cal (.neg ca))) := by
  refine PE.imp (pe_un un_neg ha) fun σ H Q ⟨ρ, env, h, er, hr, hf⟩ => ?_
  rw [ev] at hf
  refine tG.bind er hr hf fun x H1 ρ1 d1 h1 x1 k1 rx hr1 er1 hf1 => ?_
  split at hf1
  · exact ⟨_, rx.int_e, FinG.self hf1 RD.int hr1⟩
  · exact hf1.elim
/-! truth -/
theorem ct_plain {ca : CE} (hp : plainT a = true) (ha : PE X a (tE X.K cls (ev cal ca))) : PT X a (tT X.K cls (evT cal ca)) := by
  refine PT.imp (pt_truth ha (isTrue_ok hp)) fun σ H Q ⟨ρ, env, h, er, hr, hf⟩ => ?_
  refine tG.bind er hr hf fun x H1 ρ1 d1 h1 x1 k1 rx hr1 er1 hf1 => ?_
  obtain ⟨b, e, hf1⟩ := ofO_some hf1
  exact ⟨b, truD_ok hr1 rx e, FinG.self hf1 rfl hr1⟩
theorem cp_not {ca : CE} (ha : PE X a (tE X.K cls (ev cal ca))) : PE X (.UnaryOp .Not a pos) (tE X.K cls (ev cal (.not ca))) := by
  refine PE.imp (pe_notT ha) fun σ H Q ⟨ρ, env, h, er, hr, hf⟩ => ?_
  rw [ev] at hf
  refine tG.bind er hr hf fun x H1 ρ1 d1 h1 x1 k1 rx hr1 er1 hf1 => ?_
  split at hf1
  · rename_i e
    exact ⟨_, truD_ok hr1 rx e, FinG.self hf1 RD.bl hr1⟩
  · exact hf1.elim
theorem ct_not {ca : CE} (ha : PT X a (tT X.K cls (evT cal ca))) : PT X (.UnaryOp .Not a pos) (tT X.K cls (evT cal (.not ca))) := by
  refine PT.imp (pt_not ha) fun σ H Q ⟨ρ, env, h, er, hr, hf⟩ => ⟨ρ, env, h, er, hr, ?_⟩
  rw [evT, ev] at hf
  rw [evT]
  cases q1 : ev cal ca env h with
  | ex _ _ => rw [q1] at hf; exact hf
  | no => rw [q1] at hf; exact hf
  | ok x h2 =>
    rw [q1] at hf
    simp only [Rs.bind] at hf ⊢
    cases q2 : truD h2 x with
    | none => rw [q2] at hf; exact hf
    | some k =>
      rw [q2] at hf
      intro b H' ρ' x' k' e hr'
      subst e
      exact hf (!k) H' ρ' x' k' rfl hr'
theorem cp_and {ca cb : CE} {rest : List Expr} (ha : PE X a (tE X.K cls (ev cal ca))) (hb : PE X (.BoolOp .And (b :: rest) pos) (tE X.K cls (ev cal cb))) : PE X (.BoolOp .And (a :: b :: rest) pos) (tE X.K cls (ev cal (.and ca cb))) := by
  refine PE.imp (pe_andT ha hb) fun σ H Q ⟨ρ, env, h, er, hr, hf⟩ => ?_
  rw [ev] at hf
  refine tG.bind er hr hf fun x H1 ρ1 d1 h1 x1 k1 rx hr1 er1 hf1 => ?_
  split at hf1
  · rename_i e
    exact ⟨true, truD_ok hr1 rx e, by rw [if_pos rfl]; exact ⟨ρ1, env, h1, er1, hr1, hf1⟩⟩
  · rename_i e
    exact ⟨false, truD_ok hr1 rx e, by rw [if_neg Bool.false_ne_true]; exact FinG.self hf1 rx hr1⟩
  · exact hf1.elim
theorem cp_or {ca cb : CE} {rest : List Expr} (ha : PE X a (tE X.K cls (ev cal ca))) (hb : PE X (.BoolOp .Or (b :: rest) pos) (tE X.K cls (ev cal cb))) : PE X (.BoolOp .Or (a :: b :: rest) pos) (tE X.K cls (ev cal (.or ca cb))) := by
  refine PE.imp (pe_orT ha hb) fun σ H Q ⟨ρ, env, h, er, hr, hf⟩ => ?_
  rw [ev] at hf
  refine tG.bind er hr hf fun x H1 ρ1 d1 h1 x1 k1 rx hr1 er1 hf1 => ?_
  split at hf1
  · rename_i e
    exact ⟨true, truD_ok hr1 rx e, by rw [if_pos rfl]; exact FinG.self hf1 rx hr1⟩
  · rename_i e
    exact ⟨false, truD_ok hr1 rx e, by rw [if_neg Bool.false_ne_true]; exact ⟨ρ1, env, h1, er1, hr1, hf1⟩⟩
  · exact hf1.elim
theorem ct_and {ca cb : CE} {rest : List Expr} (ha : PT X a (tT X.K cls (evT cal ca))) (hb : PW X (.BoolOp .And (b :: rest) pos) (tT X.K cls (evT cal cb))) : PW X (.BoolOp .And (a :: b :: rest) pos) (tT X.K cls (evT cal (.and ca cb))) := by
  refine PW.imp (pw_and ha hb) fun σ H Q ⟨ρ, env, h, er, hr, hf⟩ => ⟨ρ, env, h, er, hr, ?_⟩
  rw [evT, ev] at hf
  rw [evT]
  cases q1 : ev cal ca env h with
  | ex _ _ => rw [q1] at hf; exact hf
  | no => rw [q1] at hf; exact hf
  | ok x h2 =>
    rw [q1] at hf
    simp only [Rs.bind] at hf ⊢
    cases q2 : truD h2 x with
    | none => rw [q2] at hf; exact hf
    | some k =>
      rw [q2] at hf
      intro b' H' ρ' x' k' e hr'
      subst e
      cases k with
      | true =>
        rw [if_pos rfl]
        exact ⟨ρ', env, h2, er.mono x' k', hr', FinG.weaken (R := RB) hf x' k'⟩
      | false =>
        rw [if_neg Bool.false_ne_true]
        simp only [q2] at hf
        exact hf false H' ρ' x' k' rfl hr'
theorem ct_or {ca cb : CE} {rest : List Expr} (ha : PT X a (tT X.K cls (evT cal ca))) (hb : PW X (.BoolOp .Or (b :: rest) pos) (tT X.K cls (evT cal cb))) : PW X (.BoolOp .Or (a :: b :: rest) pos) (tT X.K cls (evT cal (.or ca cb))) := by
  refine PW.imp (pw_or ha hb) fun σ H Q ⟨ρ, env, h, er, hr, hf⟩ => ⟨ρ, env, h, er, hr, ?_⟩
  rw [evT, ev] at hf
  rw [evT]
  cases q1 : ev cal ca env h with
  | ex _ _ => rw [q1] at hf; exact hf
  | no => rw [q1] at hf; exact hf
  | ok x h2 =>
    rw [q1] at hf
    simp only [Rs.bind] at hf ⊢
    cases q2 : truD h2 x with
    | none => rw [q2] at hf; exact hf
    | some k =>
      rw [q2] at hf
      intro b' H' ρ' x' k' e hr'
      subst e
      cases k with
      | true =>
        rw [if_pos rfl]
        simp only [q2] at hf
        exact hf true H' ρ' x' k' rfl hr'
      | false =>
        rw [if_neg Bool.false_ne_true]
        exact ⟨ρ', env, h2, er.mono x' k', hr', FinG.weaken (R := RB) hf x' k'⟩
theorem cp_ite {cc ca cb : CE} (hc : PT X c (tT X.K cls (evT cal cc))) (ha : PE X a (tE X.K cls (ev cal ca))) (hb : PE X b (tE X.K cls (ev cal cb))) : PE X (.IfExp c a b pos) (tE X.K cls (ev cal (.ite cc ca cb))) := by
  refine PE.imp (pe_ifExp hc ha hb) fun σ H Q ⟨ρ, env, h, er, hr, hf⟩ => ⟨ρ, env, h, er, hr, ?_⟩
  rw [ev] at hf
  rw [evT]
  cases q1 : ev cal cc env h with
  | ex _ _ => rw [q1] at hf; exact hf
  | no => rw [q1] at hf; exact hf
  | ok x h2 =>
    rw [q1] at hf
    simp only [Rs.bind] at hf ⊢
    cases q2 : truD h2 x with
    | none => rw [q2] at hf; exact hf
    | some k =>
      rw [q2] at hf
      intro b' H' ρ' x' k' e hr'
      subst e
      cases k with
      | true => rw [if_pos rfl]; exact ⟨ρ', env, h2, er.mono x' k', hr', FinG.weaken (R := RD X.K) hf x' k'⟩
      | false => rw [if_neg Bool.false_ne_true]; exact ⟨ρ', env, h2, er.mono x' k', hr', FinG.weaken (R := RD X.K) hf x' k'⟩
end
end Rf

namespace Rf
open PySem PySem.Spec PyProof.Rows L2
variable {X : Cx} {cls : Nat → Option Addr} {cal : Cal}
section
variable {a b c : Expr} {es : List Expr} {ca cb cc : CE} {pos : Pos}

/-! ### argument lists -/
theorem ca_nil : PA X [] (tA X.K cls (evs cal .an)) := by
  refine PA.imp pa_nil fun σ H Q ⟨ρ, env, h, er, hr, hf⟩ => ?_
  rw [evs] at hf
  exact FinG.self hf RDs.nil hr
theorem ca_cons (ha : PE X a (tE X.K cls (ev cal ca))) (hb : PA X es (tA X.K cls (evs cal cb))) (hn : notStar a = true) : PA X (a :: es) (tA X.K cls (evs cal (.ac ca cb))) := by
  refine PA.imp (pa_cons ha hb (starEach_ok hn)) fun σ H Q ⟨ρ, env, h, er, hr, hf⟩ => ?_
  rw [evs] at hf
  refine tG.bind er hr hf fun x H1 ρ1 d1 h1 x1 k1 rx hr1 er1 hf1 => ?_
  refine tG.bind er1 hr1 hf1 fun y H2 ρ2 d2 h2 x2 k2 ry hr2 er2 hf2 => ?_
  exact FinG.self hf2 (RDs.cons (rx.mono x2 k2) ry) hr2
theorem evs_len : ∀ {c : CE} {env : Env'} {h : AH} {ds : List D} {h1 : AH} {f : Expr → Option CE} {es : List Expr}, compL f es = some c → evs cal c env h = .ok ds h1 → ds.length = es.length
  | c, env, h, ds, h1, f, [], e, q => by
    cases e
    rw [evs] at q
    cases q
    rfl
  | c, env, h, ds, h1, f, a :: es, e, q => by
    rw [compL] at e
    split at e
    · split at e
      · rename_i ca cb h1 h2
        cases e
        rw [evs] at q
        cases q1 : ev cal ca env h with
        | ex _ _ => rw [q1] at q; cases q
        | no => rw [q1] at q; cases q
        | ok x h2' =>
          rw [q1] at q
          simp only [Rs.bind] at q
          cases q2 : evs cal cb env h2' with
          | ex _ _ => rw [q2] at q; cases q
          | no => rw [q2] at q; cases q
          | ok xs h3 =>
            rw [q2] at q
            simp only at q
            cases q
            rw [List.length_cons, List.length_cons, evs_len h2 q2]
      · cases e
    · cases e
theorem cp_tup {k : Nat} {f : Expr → Option CE} (ha : PA X es (tA X.K cls (evs cal ca))) (hc : compL f es = some ca) (hl : es.length ≤ lim) : PE X (.Tuple es k pos) (tE X.K cls (ev cal (.tup ca))) := by
  refine PE.imp (pe_tup ha) fun σ H Q ⟨ρ, env, h, er, hr, hf⟩ => ⟨ρ, env, h, er, hr, ?_⟩
  rw [ev] at hf
  cases q : evs cal ca env h with
  | ex _ _ => rw [q] at hf; exact hf
  | no => rw [q] at hf; exact hf
  | ok ds h1 =>
    rw [q] at hf
    have l := evs_len hc q
    intro xs H1 ρ1 x1 k1 rx hr1
    exact ⟨by rw [rx.length, l]; exact hl, fin_tup hr1 rx (FinG.weaken (R := RD X.K) hf x1 k1)⟩
theorem cp_lst {f : Expr → Option CE} (ha : PA X es (tA X.K cls (evs cal ca))) (hc : compL f es = some ca) (hl : es.length ≤ lim) : PE X (.List es pos) (tE X.K cls (ev cal (.lst ca))) := by
  refine PE.imp (pe_lst ha) fun σ H Q ⟨ρ, env, h, er, hr, hf⟩ => ⟨ρ, env, h, er, hr, ?_⟩
  rw [ev] at hf
  cases q : evs cal ca env h with
  | ex _ _ => rw [q] at hf; exact hf
  | no => rw [q] at hf; exact hf
  | ok ds h1 =>
    rw [q] at hf
    have l := evs_len hc q
    intro xs H1 ρ1 x1 k1 rx hr1
    exact ⟨by rw [rx.length, l]; exact hl, fin_alloc_lst hr1 rx (FinG.weaken (R := RD X.K) hf x1 k1)⟩

/-! ### subscripts -/
theorem cp_idx (hu : X.A.units + 1 < cLine) (hp : plainE b = true) (ha : PE X a (tE X.K cls (ev cal ca))) (hb : PE X b (tE X.K cls (ev cal cb))) : PE X (.Subscript a b pos) (tE X.K cls (ev cal (.idx ca cb))) := by
  have := cp_two (g := idxD) (pe_ix (pos := pos) (ox_all (cls := cls) hu) ha hb (sub_ok hp)) fun _ _ _ _ q => q
  refine PE.imp this fun σ H Q q => ?_
  unfold tE tG at q ⊢
  simpa only [ev] using q
/-- a slice's bound -/
def evO (cal : Cal) (l : Bool) (c : CE) (env : Env') (h : AH) : Rs (Option Int) :=
  if l then (ev cal c env h).bind fun y h2 => (match y with | .int i => .ok (some i) h2 | _ => .no) else .ok none h
abbrev tO (K : PySem.W.Frag) (cls : Nat → Option Addr) (f : Env' → AH → Rs (Option Int)) : TO := tG K cls (fun _ _ (a b : Option Int) => a = b) f
theorem PO.imp {e : Option Expr} {t t' : TO} (h : PO X e t) (i : ∀ σ H Q, t' σ H Q → t σ H Q) : PO X e t' := ⟨fun pins s σ H Q I q => h.run pins s σ H Q I (i _ _ _ q)⟩
theorem co_none {c : CE} : PO X none (tO X.K cls (evO cal false c)) := by
  refine PO.imp po_none fun σ H Q ⟨ρ, env, h, er, hr, hf⟩ => ?_
  exact FinG.self (a := none) hf rfl hr
theorem co_some (ha : PE X a (tE X.K cls (ev cal ca))) : PO X (some a) (tO X.K cls (evO cal true ca)) := by
  refine PO.imp (po_some ha) fun σ H Q ⟨ρ, env, h, er, hr, hf⟩ => ?_
  unfold evO at hf
  rw [if_pos rfl] at hf
  refine tG.bind er hr hf fun x H1 ρ1 d1 h1 x1 k1 rx hr1 er1 hf1 => ?_
  split at hf1
  · exact ⟨_, rx.int_e, FinG.self hf1 rfl hr1⟩
  · exact hf1.elim
theorem cp_slc {l u : Bool} {lo hi : Option Expr} {p2 : Pos} (ha : PE X a (tE X.K cls (ev cal ca))) (hl : PO X lo (tO X.K cls (evO cal l cb))) (hh : PO X hi (tO X.K cls (evO cal u cc))) :
    PE X (.Subscript a (.Slice lo hi none p2) pos) (tE X.K cls (ev cal (.slc l u ca cb cc))) := by
  refine PE.imp (pe_slice (os_all (cls := cls)) ha hl hh) fun σ H Q ⟨ρ, env, h, er, hr, hf⟩ => ?_
  rw [ev] at hf
  refine tG.bind er hr hf fun x H1 ρ1 d1 h1 x1 k1 rx hr1 er1 hf1 => ?_
  refine tG.bind (f := evO cal l cb) er1 hr1 hf1 fun y H2 ρ2 d2 h2 x2 k2 ry hr2 er2 hf2 => ?_
  refine tG.bind (f := evO cal u cc) er2 hr2 hf2 fun z H3 ρ3 d3 h3 x3 k3 rz hr3 er3 hf3 => ?_
  cases ry
  cases rz
  exact ⟨ρ3, h3, d1, hr3, rx.mono (x2.trans x3) (k2.trans k3), hf3⟩

/-! ### calls -/
variable {Γ : Names} {k : Nat}
theorem cp_call {x : Str} {p : Pos} {i : Nat} {ps : List Str} (g : Good X cls Γ cal k) (hd : Γ.defs[i]? = some (x, ps, true)) (hg : isGl X.env.scope x = true) (ho : okName x = true) (hs : starsOk (a :: es) = true) (ha : PA X (a :: es) (tA X.K cls (evs cal ca))) :
    PE X (.Call (.Name x p) (a :: es) [] pos) (tE X.K cls (ev cal (.call i ca))) := by
  obtain ⟨f, fd, h1, h2, h3, h4, _⟩ := g.fns i x ps true hd
  have h3 := h3 rfl
  unfold starsOk at hs
  simp only [List.all_cons, Bool.and_eq_true] at hs
  refine PE.imp (pe_call h4 g.room (isGl_ok hg) h1 h2 h3 .nil pass0 ha (okName_ok ho).1 (starEach_ok hs.1) (starsAny_ok hs.2)) fun σ H Q ⟨ρ, env, h, er, hr, hf⟩ => ?_
  rw [ev] at hf
  refine tG.bind er hr hf fun xs H1 ρ1 ds h1 x1 k1 rx hr1 er1 hf1 => ?_
  rw [List.append_nil]
  exact ⟨ρ1, ds, h1, rx, hr1, hf1⟩
theorem cp_call0 {x : Str} {p : Pos} {i : Nat} {ps : List Str} (g : Good X cls Γ cal k) (hd : Γ.defs[i]? = some (x, ps, true)) (hg : isGl X.env.scope x = true) (ho : okName x = true) :
    PE X (.Call (.Name x p) [] [] pos) (tE X.K cls (ev cal (.call i .an))) := by
  obtain ⟨f, fd, h1, h2, h3, h4, _⟩ := g.fns i x ps true hd
  have h3 := h3 rfl
  refine PE.imp (pe_call0 h4 g.room (isGl_ok hg) h1 h2 h3 .nil pass0 (okName_ok ho).1) fun σ H Q ⟨ρ, env, h, er, hr, hf⟩ => ?_
  rw [ev, evs] at hf
  show spD _ _ _ _ ([] ++ []) H Q E0
  exact ⟨ρ, [], h, RDs.nil, hr, hf⟩
/-- keywords -/
def kwNames : List Keyword → Option (List Str)
  | [] => some []
  | ⟨some x, _, _⟩ :: r => (kwNames r).map fun l => x :: l
  | ⟨none, _, _⟩ :: _ => none
theorem kw_all {pos : Pos} {env : Env} : ∀ {kws : List Keyword} {ks : List Str}, kwNames kws = some ks → (backToKw pos (keywordEach kws env)).all (·.1.isSome) = true ∧ (backToKw pos (keywordEach kws env)).filterMap (·.1) = ks ∧ (backToKw pos (keywordEach kws env)).any (·.1.isNone) = false
  | [], ks, h => by cases h; exact ⟨rfl, rfl, rfl⟩
  | ⟨some x, e, p⟩ :: r, ks, h => by
    rw [kwNames] at h
    obtain ⟨l, h1, h2⟩ := Option.map_eq_some_iff.mp h
    obtain ⟨a1, a2, a3⟩ := kw_all (pos := pos) (env := env) h1
    subst h2
    simp only [keywordEach, backToKw, List.map_cons, List.all_cons, List.filterMap_cons, List.any_cons] at a1 a2 a3 ⊢
    refine ⟨by simpa using a1, by rw [a2], by simpa using a3⟩
  | ⟨none, e, p⟩ :: r, ks, h => by cases h
theorem ck_all : ∀ {kws : List Keyword} {cb : CE} {f : Expr → Option CE}, compL f (kws.map (·.value)) = some cb → (∀ e c, f e = some c → PE X e (tE X.K cls (ev cal c))) → PK X kws (tA X.K cls (evs cal cb))
  | [], cb, f, h, _ => by
    cases h
    refine ⟨fun pos pins s σ H Q I ⟨ρ, env, h, er, hr, hf⟩ => ?_⟩
    rw [evs] at hf
    exact (pk_nil (X := X)).run pos pins s σ H Q I (FinG.self hf RDs.nil hr)
  | ⟨nm, e, p⟩ :: r, cb, f, h, hp => by
    rw [List.map_cons, compL] at h
    split at h
    · split at h
      · rename_i c1 c2 h1 h2
        cases h
        refine ⟨fun pos pins s σ H Q I ⟨ρ, env, h, er, hr, hf⟩ => ?_⟩
        rw [evs] at hf
        refine (pk_cons (nm := nm) (kpos := p) (hp _ _ h1) (ck_all h2 hp)).run pos pins s σ H Q I ?_
        refine tG.bind er hr hf fun x H1 ρ1 d1 h1 x1 k1 rx hr1 er1 hf1 => ?_
        refine tG.bind er1 hr1 hf1 fun y H2 ρ2 d2 h2 x2 k2 ry hr2 er2 hf2 => ?_
        exact FinG.self hf2 (RDs.cons (rx.mono x2 k2) ry) hr2
      · cases h
    · cases h
theorem pickO_ok {K : PySem.W.Frag} {ρ : List Addr} {H : Hp} {ds : List D} {xs : List V} (r : RDs K ρ H ds xs) : ∀ {p : List Nat} {zs : List D}, mapO (fun i => ds[i]?) p = some zs → RDs K ρ H zs (p.filterMap fun i => xs[i]?)
  | [], _, e => by cases e; exact RDs.nil
  | i :: p, _, e => by
    rw [mapO] at e
    split at e
    · rename_i d hd
      split at e
      · rename_i zs hz
        cases e
        obtain ⟨x, h1, h2⟩ := r.get hd
        rw [List.filterMap_cons, h1]
        exact RDs.cons h2 (pickO_ok r hz)
      · cases e
    · cases e
theorem cp_callk {x : Str} {p : Pos} {i n : Nat} {ps ks : List Str} {pm : List Nat} {pl : Bool} {kws : List Keyword} {f : Expr → Option CE} (g : Good X cls Γ cal k) (hd : Γ.defs[i]? = some (x, ps, pl)) (hk : (i, n, ks, pm) ∈ Γ.kws) (hn : (a :: es).length = n) (hkw : kwNames kws = some ks)
    (hg : isGl X.env.scope x = true) (ho : okName x = true) (hs : starsOk (a :: es) = true) (hc : compL f (a :: es) = some ca) (ha : PA X (a :: es) (tA X.K cls (evs cal ca))) (hcb : compL f (kws.map (·.value)) = some cb) (hpe : ∀ e c, f e = some c → PE X e (tE X.K cls (ev cal c))) :
    PE X (.Call (.Name x p) (a :: es) kws pos) (tE X.K cls (ev cal (.callk i pm ca cb))) := by
  obtain ⟨f', fd, h1, h2, h3, h4, h5⟩ := g.fns i x ps pl hd
  unfold starsOk at hs
  simp only [List.all_cons, Bool.and_eq_true] at hs
  obtain ⟨w1, w2, w3⟩ := kw_all (pos := pos) (env := X.env) hkw
  have hst := starsAny_ok (pos := pos) (env := X.env) (es := a :: es) (by unfold starsOk; simp only [List.all_cons, Bool.and_eq_true]; exact hs)
  refine PE.imp (pe_callK h4 g.room (isGl_ok hg) h1 h2 (h5 n ks pm hk) pass0 ha (ck_all hcb hpe) w1 w2 (okName_ok ho).1 (starEach_ok hs.1) (by rw [hst, w3]; rfl)) fun σ H Q ⟨ρ, env, h, er, hr, hf⟩ => ⟨ρ, env, h, er, hr, ?_⟩
  rw [ev] at hf
  cases q : evs cal ca env h with
  | ex _ _ => rw [q] at hf; exact hf
  | no => rw [q] at hf; exact hf
  | ok ds h1 =>
    rw [q] at hf
    have l1 := evs_len hc q
    intro xs H1 ρ1 x1 k1 rx hr1
    refine ⟨ρ1, env, h1, er.mono x1 k1, hr1, ?_⟩
    have hf1 := FinG.weaken (R := RD X.K) hf x1 k1
    simp only [Rs.bind] at hf1
    cases q2 : evs cal cb env h1 with
    | ex _ _ => rw [q2] at hf1; exact hf1
    | no => rw [q2] at hf1; exact hf1
    | ok zs h2 =>
      rw [q2] at hf1
      have l2 := evs_len hcb q2
      intro ys H2 ρ2 x2 k2 ry hr2
      have hf2 := FinG.weaken (R := RD X.K) hf1 x2 k2
      simp only at hf2
      split at hf2
      · rename_i ws hw
        refine ⟨ρ2, ws, h2, ?_, hr2, hf2⟩
        have hlk : ks.length = kws.length := by
          have : ∀ {kws : List Keyword} {ks : List Str}, kwNames kws = some ks → ks.length = kws.length := by
            intro kws
            induction kws with
            | nil => intro ks h; cases h; rfl
            | cons y r ih =>
              obtain ⟨_ | y, e, p⟩ := y
              · intro ks h; cases h
              · intro ks h
                rw [kwNames] at h
                obtain ⟨l, h1, h2⟩ := Option.map_eq_some_iff.mp h
                rw [← h2, List.length_cons, List.length_cons, ih h1]
          exact this hkw
        unfold gK
        rw [if_pos ⟨by rw [rx.length, l1]; exact hn, by rw [ry.length, l2, List.length_map]; exact hlk.symm⟩]
        exact pickO_ok ((rx.mono x2 k2).append ry) hw
      · exact hf2.elim

/-! ### built-ins -/
theorem cp_blt {x : Str} {p : Pos} {bl : Blt} (g : Good X cls Γ cal k) (e : bltOf x (a :: es).length = some bl) (hg : isGl X.env.scope x = true) (hs : starsOk (a :: es) = true) (ha : PA X (a :: es) (tA X.K cls (evs cal ca))) :
    PE X (.Call (.Name x p) (a :: es) [] pos) (tE X.K cls (ev cal (.blt bl ca))) := by
  unfold starsOk at hs
  simp only [List.all_cons, Bool.and_eq_true] at hs
  have fin : ∀ {nm : Str} {b : Blt} {r : List V → Hp → VK → Prop}, PE X (.Call (.Name nm p) (a :: es) [] pos) (tCB (rA X.K cls (bltD b)) (tA X.K cls (evs cal ca))) → PE X (.Call (.Name nm p) (a :: es) [] pos) (tE X.K cls (ev cal (.blt b ca))) := fun {nm b r} h => by
    refine PE.imp h fun σ H Q ⟨ρ, env, h, er, hr, hf⟩ => ?_
    rw [ev] at hf
    exact tG.bind er hr hf fun xs H1 ρ1 ds h1 x1 k1 rx hr1 er1 hf1 => ⟨ρ1, h1, ds, hr1, rx, hf1⟩
  have fnB : ∀ {nm : Str} {id : String} {b : Blt}, nm ∈ bltNames → isGl X.env.scope nm = true → nm ≠ "__name__" → (nm == ("__debug__" : Str)) = false → bootBuiltins nm = some (.builtin id) → CallR X (.builtin id) (rA X.K cls (bltD b)) → PE X (.Call (.Name nm p) (a :: es) [] pos) (tE X.K cls (ev cal (.blt b ca))) :=
    fun {nm id b} hm hg hn hd hv hc => fin (r := fun _ _ _ => True) (pe_callB hc (isGl_ok hg) (g.bl _ hm) hv ha hn hd (starEach_ok hs.1) (starsAny_ok hs.2))
  have fnT : ∀ {nm : Str} {id : String} {b : Blt}, nm ∈ bltNames → isGl X.env.scope nm = true → nm ≠ "__name__" → (nm == ("__debug__" : Str)) = false → bootBuiltins nm = some (.type id) → CallR X (.type id) (rA X.K cls (bltD b)) → PE X (.Call (.Name nm p) (a :: es) [] pos) (tE X.K cls (ev cal (.blt b ca))) :=
    fun {nm id b} hm hg hn hd hv hc => fin (r := fun _ _ _ => True) (pe_callTy hc (isGl_ok hg) (g.bl _ hm) hv ha hn hd (starEach_ok hs.1) (starsAny_ok hs.2))
  unfold bltOf at e
  split at e
  · split at e
    · subst_vars; cases e; exact fnB (by decide +kernel) hg (by decide +kernel) (by decide +kernel) (by decide +kernel) cb_len
    split at e
    · subst_vars; cases e; exact fnB (by decide +kernel) hg (by decide +kernel) (by decide +kernel) (by decide +kernel) cb_abs
    split at e
    · subst_vars; cases e; exact fnT (by decide +kernel) hg (by decide +kernel) (by decide +kernel) (by decide +kernel) cb_int
    split at e
    · subst_vars; cases e; exact fnT (by decide +kernel) hg (by decide +kernel) (by decide +kernel) (by decide +kernel) cb_list
    split at e
    · subst_vars; cases e; exact fnT (by decide +kernel) hg (by decide +kernel) (by decide +kernel) (by decide +kernel) cb_tuple
    split at e
    · subst_vars; cases e; exact fnB (by decide +kernel) hg (by decide +kernel) (by decide +kernel) (by decide +kernel) (cb_sum g.calm)
    split at e
    · subst_vars; cases e; exact fnB (by decide +kernel) hg (by decide +kernel) (by decide +kernel) (by decide +kernel) (cb_max g.calm)
    split at e
    · subst_vars; cases e; exact fnB (by decide +kernel) hg (by decide +kernel) (by decide +kernel) (by decide +kernel) (cb_min g.calm)
    · cases e
  · split at e
    · split at e
      · subst_vars; cases e; exact fnB (by decide +kernel) hg (by decide +kernel) (by decide +kernel) (by decide +kernel) (cb_max2 g.calm)
      split at e
      · subst_vars; cases e; exact fnB (by decide +kernel) hg (by decide +kernel) (by decide +kernel) (by decide +kernel) (cb_min2 g.calm)
      · cases e
    · cases e
theorem tyOf_ok {x : Str} {t : Ty} (e : tyOf x = some t) : x ∈ bltNames ∧ x ≠ "__name__" ∧ (x == ("__debug__" : Str)) = false ∧ bootBuiltins x = some (.type (tyName t)) := by
  unfold tyOf at e
  split at e
  · subst_vars; cases e; exact ⟨by decide +kernel, by decide +kernel, by decide +kernel, by decide +kernel⟩
  split at e
  · subst_vars; cases e; exact ⟨by decide +kernel, by decide +kernel, by decide +kernel, by decide +kernel⟩
  split at e
  · subst_vars; cases e; exact ⟨by decide +kernel, by decide +kernel, by decide +kernel, by decide +kernel⟩
  split at e
  · subst_vars; cases e; exact ⟨by decide +kernel, by decide +kernel, by decide +kernel, by decide +kernel⟩
  split at e
  · subst_vars; cases e; exact ⟨by decide +kernel, by decide +kernel, by decide +kernel, by decide +kernel⟩
  · cases e
theorem cp_isi {x : Str} {p p' : Pos} {t : Ty} (g : Good X cls Γ cal k) (e : tyOf x = some t) (hg : isGl X.env.scope "isinstance" = true) (hx : isGl X.env.scope x = true) (hn : notStar a = true) (ha : PE X a (tE X.K cls (ev cal ca))) :
    PE X (.Call (.Name "isinstance" p) [a, .Name x p'] [] pos) (tE X.K cls (ev cal (.isi t ca))) := by
  obtain ⟨t1, t2, t3, t4⟩ := tyOf_ok e
  have hty : PE X (.Name x p') (tC (.ty (tyName t))) := pe_bltn (isGl_ok hx) (g.bl _ t1) t4 rfl t2 t3
  have hpa : PA X [a, .Name x p'] (tCons (tE X.K cls (ev cal ca)) (tCons (tC (.ty (tyName t))) tNil)) := pa_cons ha (pa_cons hty pa_nil) (starEach_ok hn)
  refine PE.imp (pe_callB (cb_isi (cls := cls) t) (isGl_ok hg) (g.bl _ (by decide +kernel)) (by decide +kernel) hpa (by decide +kernel) (by decide +kernel) (starEach_ok hn) (by rfl)) fun σ H Q ⟨ρ, env, h, er, hr, hf⟩ => ?_
  rw [ev] at hf
  exact tG.bind er hr hf fun y H1 ρ1 d h1 x1 k1 rx hr1 er1 hf1 => ⟨ρ1, h1, d, y, hr1, rx, rfl, hf1⟩
end
end Rf

namespace Rf
open PySem PySem.Spec PyProof.Rows L2
variable {X : Cx} {cls : Nat → Option Addr} {cal : Cal} {Γ : Names} {k : Nat}
section
variable {a b c : Expr} {es : List Expr} {ca cb cc : CE} {pos : Pos}

/-! ### methods -/
theorem tyL {K : PySem.W.Frag} {ρ : List Addr} {H : Hp} {h : AH} {x : V} {n : Nat} {ds : List D} (hr : HR K cls ρ H h) (e : h[n]? = some (.lst ds)) (rx : RD K ρ H (.ref n) x) : tyV K "list" x H := by
  obtain ⟨p, xs, rfl, _, hp, _⟩ := hr.lst e rx
  exact .inl ⟨rfl, xs, SqL.of hp⟩
theorem tyD {K : PySem.W.Frag} {ρ : List Addr} {H : Hp} {h : AH} {x : V} {n : Nat} {ds : List (DK × D)} (hr : HR K cls ρ H h) (e : h[n]? = some (.dic ds)) (rx : RD K ρ H (.ref n) x) : tyV K "dict" x H := by
  obtain ⟨p, xs, rfl, _, hp, _⟩ := hr.dic e rx
  exact .inr (.inr (.inl ⟨rfl, .inl ⟨xs, hp⟩⟩))
def mTy : Mth → String
  | .append => "list" | .extend => "list" | .pop => "list" | .index => "list" | .get1 => "dict" | .get2 => "dict"
theorem mthTy_ok {K : PySem.W.Frag} {ρ : List Addr} {H : Hp} {h : AH} {x : V} {d : D} {m : Mth} (hr : HR K cls ρ H h) (e : mthTy m d h = true) (rx : RD K ρ H d x) : tyV K (mTy m) x H := by
  unfold mthTy at e
  split at e
  · split at e
    · rename_i hn
      cases m <;> first
        | exact tyL hr hn rx
        | (simp at e; done)
    · rename_i hn
      cases m <;> first
        | exact tyD hr hn rx
        | (simp at e; done)
    · cases e
  · cases e
theorem few_ok {es : List Expr} {env : Env} {pos : Pos} (hs : starsOk es = true) (hl : es.length < 30) : ((backTo pos (starEach es env)).all (fun x => !x.1) && (backToKw pos (keywordEach [] env)).all (fun x => x.1.isSome)
      && decide (es.length + ([] : List Keyword).length + (if ([] : List Keyword).isEmpty then 0 else 1) < 30)) = true := by
  have h1 := starsAny_ok (pos := pos) (env := env) hs
  rw [List.any_eq_false] at h1
  have h2 : (backTo pos (starEach es env)).all (fun x => !x.1) = true := by
    rw [List.all_eq_true]
    intro x hx
    have := h1 x hx
    simpa using this
  rw [h2]
  simpa [keywordEach, backToKw] using hl
theorem mth_red {m : Mth} {r : V → List V → Hp → VK → Prop} (hm : ∀ x xs H Q, rM X.K cls m x xs H Q → r x xs H Q) : ∀ σ H Q, tE X.K cls (ev cal (.mth m ca cb)) σ H Q → tBM X.K (mTy m) r (tE X.K cls (ev cal ca)) (tA X.K cls (evs cal cb)) σ H Q := fun σ H Q ⟨ρ, env, h, er, hr, hf⟩ => by
  rw [ev] at hf
  refine tG.bind er hr hf fun x H1 ρ1 d1 h1 x1 k1 rx hr1 er1 hf1 => ?_
  split at hf1
  · rename_i ht
    refine ⟨mthTy_ok hr1 ht rx, ?_⟩
    refine tG.bind er1 hr1 hf1 fun y H2 ρ2 d2 h2 x2 k2 ry hr2 er2 hf2 => ?_
    exact hm _ _ _ _ ⟨ρ2, h2, d1, d2, hr2, rx.mono x2 k2, ry, hf2⟩
  · exact hf1.elim
theorem mth_red0 {m : Mth} {r : V → List V → Hp → VK → Prop} (hm : ∀ x xs H Q, rM X.K cls m x xs H Q → r x xs H Q) : ∀ σ H Q, tE X.K cls (ev cal (.mth m ca .an)) σ H Q → tBM0 X.K (mTy m) r (tE X.K cls (ev cal ca)) σ H Q := fun σ H Q ⟨ρ, env, h, er, hr, hf⟩ => by
  rw [ev] at hf
  refine tG.bind er hr hf fun x H1 ρ1 d1 h1 x1 k1 rx hr1 er1 hf1 => ?_
  split at hf1
  · rename_i ht
    rw [evs] at hf1
    exact ⟨mthTy_ok hr1 ht rx, hm _ _ _ _ ⟨ρ1, h1, d1, [], hr1, rx, RDs.nil, hf1⟩⟩
  · exact hf1.elim
theorem cp_mth {nm : Str} {apos : Pos} {m : Mth} (g : Good X cls Γ cal k) (e : mthOf nm (b :: es).length = some m) (hb : baseOk a = true) (hl : (apos.endLine == pos.line) = true) (hlen : (b :: es).length < 30) (hs : starsOk (b :: es) = true)
    (ha : PE X a (tE X.K cls (ev cal ca))) (hes : PA X (b :: es) (tA X.K cls (evs cal cb))) : PE X (.Call (.Attribute a nm apos) (b :: es) [] pos) (tE X.K cls (ev cal (.mth m ca cb))) := by
  have hs' := hs
  unfold starsOk at hs'
  simp only [List.all_cons, Bool.and_eq_true] at hs'
  have hu := g.room.units0
  have hu2 := g.room.units
  have fin : ∀ {T id : String} {nm : Str} {m : Mth}, mTy m = T → PlainAttrs T → Slot T nm id → typeOf (.builtin id) = pure (.type "method_descriptor") → MtR X id (rM X.K cls m) → PE X (.Call (.Attribute a nm apos) (b :: es) [] pos) (tE X.K cls (ev cal (.mth m ca cb))) := fun {T id nm m} hT pa sl ty hm => by
    subst hT
    exact PE.imp (pe_bm pa sl ty hm ha hes (base_ok hb) (few_ok hs hlen) hl (starEach_ok hs'.1) (starsAny_ok hs'.2)) (mth_red fun _ _ _ _ q => q)
  unfold mthOf at e
  split at e
  · rename_i h; obtain ⟨h, -⟩ := h; subst h; cases e; exact fin rfl PySem.F.plainAttrs_list PySem.F.slot_list_append PySem.F.type_list_append mm_append
  split at e
  · rename_i h; obtain ⟨h, -⟩ := h; subst h; cases e; exact fin rfl PySem.F.plainAttrs_list PySem.F.slot_list_extend PySem.F.type_list_extend mm_extend
  split at e
  · rename_i h; simp at h
  split at e
  · rename_i h; obtain ⟨h, -⟩ := h; subst h; cases e; exact fin rfl PySem.F.plainAttrs_list PySem.F.slot_list_index PySem.F.type_list_index mm_index
  split at e
  · rename_i h; obtain ⟨h, -⟩ := h; subst h; cases e; exact fin rfl PySem.F.plainAttrs_dict PySem.F.slot_dict_get PySem.F.type_dict_get (mm_get1 (by omega))
  split at e
  · rename_i h; obtain ⟨h, -⟩ := h; subst h; cases e; exact fin rfl PySem.F.plainAttrs_dict PySem.F.slot_dict_get PySem.F.type_dict_get (mm_get2 (by omega))
  · cases e
theorem cp_mth0 {nm : Str} {apos : Pos} {m : Mth} (e : mthOf nm 0 = some m) (hb : baseOk a = true) (hl : (apos.endLine == pos.line) = true) (ha : PE X a (tE X.K cls (ev cal ca))) : PE X (.Call (.Attribute a nm apos) [] [] pos) (tE X.K cls (ev cal (.mth m ca .an))) := by
  unfold mthOf at e
  split at e
  · rename_i h; simp at h
  split at e
  · rename_i h; simp at h
  split at e
  · rename_i h; obtain ⟨h, -⟩ := h; subst h; cases e
    exact PE.imp (pe_bm0 PySem.F.plainAttrs_list PySem.F.slot_list_pop PySem.F.type_list_pop mm_pop ha (base_ok hb) hl) (mth_red0 fun _ _ _ _ q => q)
  split at e
  · rename_i h; simp at h
  split at e
  · rename_i h; simp at h
  split at e
  · rename_i h; simp at h
  · cases e

/-! ### dict displays -/
def inter : List (Option Expr) → List Expr → Option (List Expr)
  | [], [] => some []
  | some k :: ks, v :: vs => (inter ks vs).map fun l => k :: v :: l
  | _, _ => none
theorem inter_len : ∀ {ks : List (Option Expr)} {vs l : List Expr}, inter ks vs = some l → ks.length = vs.length ∧ ks.all (·.isSome) = true
  | [], [], _, _ => ⟨rfl, rfl⟩
  | [], _ :: _, _, h => by cases h
  | some k :: ks, [], _, h => by cases h
  | none :: ks, _, _, h => by cases h
  | some k :: ks, v :: vs, l, h => by
    rw [inter] at h
    obtain ⟨l', h1, _⟩ := Option.map_eq_some_iff.mp h
    obtain ⟨e1, e2⟩ := inter_len h1
    exact ⟨by rw [List.length_cons, List.length_cons, e1], by simpa using e2⟩
/-- the pairs' readings, out of the code -/
def prs (K : PySem.W.Frag) (cls : Nat → Option Addr) (cal : Cal) : CE → List (TE × TE)
  | .ac a (.ac b r) => (tE K cls (ev cal a), tE K cls (ev cal b)) :: prs K cls cal r
  | _ => []
theorem pps_ok {f : Expr → Option CE} (hp : ∀ e c, f e = some c → PE X e (tE X.K cls (ev cal c))) : ∀ {ks : List (Option Expr)} {vs l : List Expr} {c : CE}, inter ks vs = some l → compL f l = some c → PPs X pos ks vs (prs X.K cls cal c)
  | [], [], _, _, h, e => by cases h; cases e; exact pps_nil
  | [], _ :: _, _, _, h, _ => by cases h
  | some k :: ks, [], _, _, h, _ => by cases h
  | none :: ks, _, _, _, h, _ => by cases h
  | some k :: ks, v :: vs, l, c, h, e => by
    rw [inter] at h
    obtain ⟨l', h1, h2⟩ := Option.map_eq_some_iff.mp h
    subst h2
    rw [compL] at e
    split at e
    · split at e
      · rename_i c1 c2 e1 e2
        cases e
        rw [compL] at e2
        split at e2
        · split at e2
          · rename_i c3 c4 e3 e4
            cases e2
            exact pps_cons (hp _ _ e1) (hp _ _ e3) (pps_ok hp h1 e4)
          · cases e2
        · cases e2
      · cases e
    · cases e
theorem prs_run {σ : L2.St} {Q' : List (V × V) → Hp → Prop} : ∀ {f : Expr → Option CE} {ks : List (Option Expr)} {vs l : List Expr} {c : CE} {env : Env'} {h : AH} {ρ : List Addr} {H : Hp} {Qf : List D → AH → Rs D} {Q : VK},
    inter ks vs = some l → compL f l = some c → ER X.K ρ H env σ → HR X.K cls ρ H h → FinG X.K cls (RD X.K) ρ H Q ((evs cal c env h).bind Qf) →
    (∀ ds ps H1 ρ1 h1, Ext ρ ρ1 → Keep H H1 → HR X.K cls ρ1 H1 h1 → RDs X.K ρ1 H1 ds (ps.flatMap fun (p : V × V) => [p.1, p.2]) → FinG X.K cls (RD X.K) ρ1 H1 Q (Qf ds h1) → Q' ps H1) → tPairs (prs X.K cls cal c) σ H Q'
  | f, [], [], _, _, env, h, ρ, H, Qf, Q, hi, e, er, hr, hf, hq => by
    cases hi
    cases e
    rw [evs] at hf
    exact hq [] [] H ρ h Ext.refl Keep.refl hr RDs.nil hf
  | _, [], _ :: _, _, _, _, _, _, _, _, _, h, _, _, _, _, _ => by cases h
  | _, some k :: ks, [], _, _, _, _, _, _, _, _, h, _, _, _, _, _ => by cases h
  | _, none :: ks, _, _, _, _, _, _, _, _, _, h, _, _, _, _, _ => by cases h
  | f, some k :: ks, v :: vs, l, c, env, h, ρ, H, Qf, Q, hi, e, er, hr, hf, hq => by
    rw [inter] at hi
    obtain ⟨l', g1, g2⟩ := Option.map_eq_some_iff.mp hi
    subst g2
    rw [compL] at e
    split at e
    · split at e
      · rename_i c1 c2 e1 e2
        cases e
        rw [compL] at e2
        split at e2
        · split at e2
          · rename_i c3 c4 e3 e4
            cases e2
            show tE X.K cls (ev cal c1) σ H fun x H1 => tE X.K cls (ev cal c3) σ H1 fun y H2 => tPairs (prs X.K cls cal c4) σ H2 fun ps H3 => Q' ((x, y) :: ps) H3
            rw [evs] at hf
            have hf' : FinG X.K cls (RD X.K) ρ H Q ((ev cal c1 env h).bind fun x h1 => ((evs cal (.ac c3 c4) env h1).bind fun xs h2 => .ok (x :: xs) h2).bind Qf) := by
              cases q : ev cal c1 env h with
              | ex _ _ => rw [q] at hf; exact hf
              | no => rw [q] at hf; exact hf
              | ok x h1 => rw [q] at hf; exact hf
            refine tG.bind er hr hf' fun x H1 ρ1 d1 h1 x1 k1 rx hr1 er1 hf1 => ?_
            rw [evs] at hf1
            have hf1' : FinG X.K cls (RD X.K) ρ1 H1 Q ((ev cal c3 env h1).bind fun y h2 => (evs cal c4 env h2).bind fun ys h3 => Qf (d1 :: y :: ys) h3) := by
              cases q : ev cal c3 env h1 with
              | ex _ _ => rw [q] at hf1; exact hf1
              | no => rw [q] at hf1; exact hf1
              | ok y h2 =>
                rw [q] at hf1
                simp only [Rs.bind] at hf1 ⊢
                cases q2 : evs cal c4 env h2 with
                | ex _ _ => rw [q2] at hf1; exact hf1
                | no => rw [q2] at hf1; exact hf1
                | ok ys h3 => rw [q2] at hf1; exact hf1
            refine tG.bind er1 hr1 hf1' fun y H2 ρ2 d2 h2 x2 k2 ry hr2 er2 hf2 => ?_
            refine prs_run g1 e4 er2 hr2 hf2 fun ds ps H3 ρ3 h3 x3 k3 hr3 r3 hf3 => ?_
            refine hq (d1 :: d2 :: ds) ((x, y) :: ps) H3 ρ3 h3 ((x1.trans x2).trans x3) ((k1.trans k2).trans k3) hr3 ?_ hf3
            exact RDs.cons (rx.mono (x2.trans x3) (k2.trans k3)) (RDs.cons (ry.mono x3 k3) r3)
          · cases e2
        · cases e2
      · cases e
    · cases e
theorem pairsO_ok {K : PySem.W.Frag} {ρ : List Addr} {H : Hp} : ∀ {ds : List D} {ps : List (V × V)} {kvs : List (DK × D)}, RDs K ρ H ds (ps.flatMap fun (p : V × V) => [p.1, p.2]) → pairsO ds = some kvs →
    ∃ ks : List (Key × V), ps = ks.map (fun kv => (kV kv.1, kv.2)) ∧ KVs K ρ H kvs ks
  | [], ps, kvs, r, e => by
    cases e
    rw [RDs] at r
    cases ps with
    | nil => exact ⟨[], rfl, .nil⟩
    | cons p ps => cases r
  | [d], ps, kvs, r, e => by cases e
  | d :: d2 :: ds, ps, kvs, r, e => by
    cases ps with
    | nil => rw [RDs] at r; obtain ⟨_, _, z, _⟩ := r; cases z
    | cons p ps =>
      rw [List.flatMap_cons] at r
      rw [RDs] at r
      obtain ⟨x, r1, z1, rx, r⟩ := r
      rw [RDs] at r
      obtain ⟨y, r2, z2, ry, r⟩ := r
      subst z2
      simp only [List.cons_append, List.nil_append, List.cons.injEq] at z1
      obtain ⟨z3, z4, z5⟩ := z1
      subst z3 z4 z5
      rw [pairsO] at e
      split at e
      · rename_i k kvs' e1 e2
        cases e
        obtain ⟨ks, h1, h2⟩ := pairsO_ok r e2
        refine ⟨(kD k, p.2) :: ks, ?_, .cons ⟨rfl, ry⟩ h2⟩
        rw [List.map_cons, ← h1, ← keyD_ok rx e1]
      · cases e
theorem merge_ok {K : PySem.W.Frag} {ρ : List Addr} {H : Hp} : ∀ {kvs acc : List (DK × D)} {ks bcc : List (Key × V)}, KVs K ρ H kvs ks → KVs K ρ H acc bcc → KVs K ρ H (kvs.foldl (fun acc kv => putKV acc kv.1 kv.2) acc) (mergeK bcc ks)
  | _, _, _, _, .nil, r => r
  | p :: kvs, acc, q :: ks, bcc, .cons h t, r => by
    show KVs K ρ H (kvs.foldl _ (putKV acc p.1 p.2)) (mergeK (putK bcc q.1 q.2) ks)
    refine merge_ok t ?_
    rw [← h.1]
    exact r.put p.1 h.2
theorem cp_dic {f : Expr → Option CE} (hp : ∀ e c, f e = some c → PE X e (tE X.K cls (ev cal c))) {ks : List (Option Expr)} {vs l : List Expr} (hi : inter ks vs = some l) (hc : compL f l = some ca) (h0 : ks ≠ []) (h15 : ks.length ≤ 15) :
    PE X (.Dict ks vs pos) (tE X.K cls (ev cal (.dic ca))) := by
  obtain ⟨l1, l2⟩ := inter_len hi
  refine PE.imp (pe_disp (pps_ok (cls := cls) (cal := cal) hp hi hc) l2 l1 h0 h15) fun σ H Q ⟨ρ, env, h, er, hr, hf⟩ p hpn => ?_
  rw [ev] at hf
  have k0 : Keep H (upd H p (.dK [])) := Keep.fresh hpn
  have hp1 : (ρ ++ [p])[h.length]? = some p := by
    rw [hr.len, List.getElem?_append_right (Nat.le_refl _)]
    simp
  refine prs_run hi hc (er.mono Ext.snoc k0) (hr.alloc (ob := .dic []) hpn ⟨[], upd_same, .nil⟩) (FinG.weaken hf Ext.snoc k0) fun ds ps H1 ρ1 h1 x1 k1 hr1 r1 hf1 => ?_
  split at hf1
  · rename_i kvs e1 e2
    split at hf1
    · rename_i hl
      have hpp := x1.get hp1
      obtain ⟨ks', g1, g2⟩ := hr1.ob _ _ p e1 hpp
      cases g2
      obtain ⟨kks, g3, g4⟩ := pairsO_ok r1 e2
      have kk : Keep H1 (upd H1 p (.dK (mergeK [] kks))) := Keep.write g1 trivial
      have g5 : KVs X.K ρ1 (upd H1 p (.dK (mergeK [] kks))) (kvs.foldl (fun acc kv => putKV acc kv.1 kv.2) []) (mergeK [] kks) := Paired.mapP (merge_ok g4 .nil) fun _ _ z => ⟨z.1, z.2.mono Ext.refl kk⟩
      refine ⟨g1, kks, g3, by have e := Paired.length g4; omega, ?_⟩
      exact hf1 (.ref p) _ ρ1 Ext.refl kk (RD.ref hpp) (hr1.write (ob := .dic _) hpp ⟨_, upd_same, g5⟩)
    · exact hf1.elim
  · exact hf1.elim
end
end Rf

namespace Rf
open PySem PySem.Spec PyProof.Rows L2
variable {X : Cx} {cls : Nat → Option Addr} {cal : Cal} {Γ : Names} {k : Nat}

/-! ### what a loop walks -/
def srcJ1 (K : PySem.W.Frag) (ik : IK) (xs : List V) (H : Hp) (J : It) : Prop :=
  match ik, xs with
  | .seq, [.ref a] => (∃ ys, SqL K H a ys) ∧ J = Itl K a
  | .rng1, [.int j] => -1000000000 ≤ j ∧ j < 1000000000 ∧ J = Itr 0 j.toNat
  | .rng2, [.int i, .int j] => (-1000000000 ≤ i ∧ i < 1000000000 ∧ -1000000000 ≤ j ∧ j < 1000000000) ∧ J = Itr i (j - i).toNat
  | _, _ => False
def srcJ2 (K : PySem.W.Frag) (ik : IK) (xs : List V) (H : Hp) (J : It) : Prop :=
  match ik, xs with
  | .seq, [.ref a] => (∃ ys, SqT K H a ys) ∧ J = Itt K a
  | .enum, [.ref a] => (∃ ys, SqT K H a ys) ∧ J = Iten K a
  | _, _ => False
def tI (K : PySem.W.Frag) (cls : Nat → Option Addr) (f : Env' → AH → Rs (List D)) (ik : IK) : TI := fun σ H R =>
  tG K cls (RDs K) f σ H (fun xs H1 => ∃ J, srcJ1 K ik xs H1 J ∧ R J H1) ∨ tG K cls (RDs K) f σ H (fun xs H1 => ∃ J, srcJ2 K ik xs H1 J ∧ R J H1)
theorem src_side {K : PySem.W.Frag} {ik : IK} {as : List D} {h : AH} {s : Src} (e : srcOf ik as h = some s) :
    (∀ ρ H xs, HR K cls ρ H h → RDs K ρ H as xs → ∃ J, srcJ1 K ik xs H J ∧ IsSrc K cls ρ H s J) ∨ (∀ ρ H xs, HR K cls ρ H h → RDs K ρ H as xs → ∃ J, srcJ2 K ik xs H J ∧ IsSrc K cls ρ H s J) := by
  unfold srcOf at e
  split at e
  · cases e
    refine .inr fun ρ H xs hr r => ?_
    obtain ⟨x, rfl, rx⟩ := r.one
    obtain ⟨a, ys, rfl, hq, rq⟩ := rx.tup_e
    exact ⟨_, ⟨⟨ys, hq⟩, rfl⟩, src_tup hq rq⟩
  · obtain ⟨ds, e1, e2⟩ := Option.map_eq_some_iff.mp e
    subst e2
    refine .inl fun ρ H xs hr r => ?_
    obtain ⟨x, rfl, rx⟩ := r.one
    obtain ⟨a, ys, rfl, ha, hq, rq⟩ := hr.lst (getL_at e1) rx
    exact ⟨_, ⟨⟨ys, SqL.of hq⟩, rfl⟩, src_lst ha⟩
  · cases e
    refine .inr fun ρ H xs hr r => ?_
    obtain ⟨x, rfl, rx⟩ := r.one
    obtain ⟨a, ys, rfl, hq, rq⟩ := rx.tup_e
    exact ⟨_, ⟨⟨ys, hq⟩, rfl⟩, src_en hq rq⟩
  · split at e
    · rename_i hb
      cases e
      refine .inl fun ρ H xs hr r => ?_
      obtain ⟨x, rfl, rx⟩ := r.one
      rw [rx.int_e]
      exact ⟨_, ⟨by omega, by omega, rfl⟩, src_rng 0 _⟩
    · cases e
  · split at e
    · rename_i hb
      cases e
      refine .inl fun ρ H xs hr r => ?_
      obtain ⟨x, y, rfl, rx, ry⟩ := r.two
      rw [rx.int_e, ry.int_e]
      exact ⟨_, ⟨⟨by omega, by omega, by omega, by omega⟩, rfl⟩, src_rng _ _⟩
    · cases e
  · cases e
theorem tI_intro {K : PySem.W.Frag} {f : Env' → AH → Rs (List D)} {ik : IK} {σ : L2.St} {H : Hp} {R : It → Hp → Prop} {ρ : List Addr} {env : Env'} {h : AH} (er : ER K ρ H env σ) (hr : HR K cls ρ H h) {as : List D} {h1 : AH} {s : Src} (e : f env h = .ok as h1)
    (es : srcOf ik as h1 = some s) (hR : ∀ xs H1 ρ1 J, Ext ρ ρ1 → Keep H H1 → HR K cls ρ1 H1 h1 → RDs K ρ1 H1 as xs → IsSrc K cls ρ1 H1 s J → R J H1) : tI K cls f ik σ H R := by
  rcases src_side (K := K) (cls := cls) es with q | q
  · refine .inl ⟨ρ, env, h, er, hr, ?_⟩
    rw [e]
    intro xs H1 ρ1 x1 k1 rx hr1
    obtain ⟨J, j1, j2⟩ := q ρ1 H1 xs hr1 rx
    exact ⟨J, j1, hR xs H1 ρ1 J x1 k1 hr1 rx j2⟩
  · refine .inr ⟨ρ, env, h, er, hr, ?_⟩
    rw [e]
    intro xs H1 ρ1 x1 k1 rx hr1
    obtain ⟨J, j1, j2⟩ := q ρ1 H1 xs hr1 rx
    exact ⟨J, j1, hR xs H1 ρ1 J x1 k1 hr1 rx j2⟩
theorem PI.imp {tg e : Expr} {t t' : TI} (h : PI X tg e t) (i : ∀ σ H R, t' σ H R → t σ H R) : PI X tg e t' := ⟨fun pins s σ H R I q => h.run pins s σ H R I (i _ _ _ q)⟩
theorem rangeArgs_ok {sc : Scope} {e : Expr} {args : List Expr} (h : rangeArgs sc e = some args) : ∃ p pos, e = .Call (.Name "range" p) args [] pos ∧ isGl sc "range" = true := by
  unfold rangeArgs at h
  split at h
  · split at h
    · rename_i x p args' pos hc
      cases h
      obtain ⟨rfl, h2⟩ := hc
      exact ⟨p, pos, rfl, h2⟩
    · cases h
  · cases h
theorem compL_star {f : Expr → Option CE} {a : Expr} {es : List Expr} {c : CE} (h : compL f (a :: es) = some c) : notStar a = true ∧ ∃ c1 c2, f a = some c1 ∧ compL f es = some c2 ∧ c = .ac c1 c2 := by
  rw [compL] at h
  split at h
  · rename_i hn
    split at h
    · rename_i c1 c2 h1 h2
      cases h
      exact ⟨hn, c1, c2, h1, h2, rfl⟩
    · cases h
  · cases h
theorem enumArg_ok {sc : Scope} {tg e a : Expr} (h : enumArg sc tg e = some a) : ∃ p pos es kk tp, e = .Call (.Name "enumerate" p) [a] [] pos ∧ isGl sc "enumerate" = true ∧ tg = .Tuple es kk tp := by
  unfold enumArg at h
  split at h
  · split at h
    · rename_i x p a' pos hc
      split at h
      · cases h
        obtain ⟨rfl, h2⟩ := hc
        exact ⟨p, pos, _, _, _, rfl, h2, rfl⟩
      · cases h
    · cases h
  · cases h
theorem cL_ok {f : Expr → Option CE} (hp : ∀ e c, f e = some c → PE X e (tE X.K cls (ev cal c))) : ∀ {es : List Expr} {c : CE}, compL f es = some c → PA X es (tA X.K cls (evs cal c)) ∧ starsOk es = true
  | [], c, h => by cases h; exact ⟨ca_nil, rfl⟩
  | a :: es, c, h => by
    obtain ⟨hn, c1, c2, h1, h2, rfl⟩ := compL_star h
    obtain ⟨g1, g2⟩ := cL_ok hp h2
    refine ⟨ca_cons (hp _ _ h1) g1 hn, ?_⟩
    unfold starsOk at g2 ⊢
    simp only [List.all_cons, Bool.and_eq_true]
    exact ⟨hn, g2⟩
theorem cp_src {f : Expr → Option CE} {tg iter : Expr} {ik : IK} {c : CE} (g : Good X cls Γ cal k) (hp : ∀ e c, f e = some c → PE X e (tE X.K cls (ev cal c))) (h : compSrc f X.env.scope tg iter = some (ik, c)) :
    PI X tg iter (tI X.K cls (evs cal c) ik) ∧ (∀ x, foldedSetIterable iter X.env x = pure x) := by
  have hrg := g.bl "range" (by decide +kernel)
  unfold compSrc at h
  split at h
  · rename_i a hra
    obtain ⟨p, pos, rfl, hg⟩ := rangeArgs_ok hra
    obtain ⟨c', h1, h2⟩ := Option.map_eq_some_iff.mp h
    cases h2
    obtain ⟨g1, g2⟩ := cL_ok (cls := cls) (cal := cal) hp h1
    have ns := (compL_star h1).1
    refine ⟨PI.imp (pi_range1 (isGl_ok hg) hrg g1 (starEach_ok ns)) fun σ H R q => ?_, fun _ => rfl⟩
    rcases q with q | q
    · refine q.mono fun xs H1 ⟨J, hj, r⟩ => ?_
      unfold srcJ1 at hj
      split at hj <;> first
        | exact hj.elim
        | (cases ‹IK.rng1 = _›; done)
        | (obtain ⟨b1, b2, rfl⟩ := hj; exact ⟨_, rfl, Int.le_trans (by decide) b1, Int.lt_of_lt_of_le b2 (by decide), r⟩)
    · refine q.mono fun xs H1 ⟨J, hj, r⟩ => ?_
      unfold srcJ2 at hj
      split at hj <;> first
        | exact hj.elim
        | (cases ‹IK.rng1 = _›; done)
  · rename_i a b hra
    obtain ⟨p, pos, rfl, hg⟩ := rangeArgs_ok hra
    obtain ⟨c', h1, h2⟩ := Option.map_eq_some_iff.mp h
    cases h2
    obtain ⟨g1, g2⟩ := cL_ok (cls := cls) (cal := cal) hp h1
    obtain ⟨ns, _, _, _, h3, _⟩ := compL_star h1
    have ns2 := (compL_star h3).1
    refine ⟨PI.imp (pi_range2 (isGl_ok hg) hrg g1 (by rw [starEach_ok ns, starEach_ok ns2]; rfl) (starEach_ok ns2)) fun σ H R q => ?_, fun _ => rfl⟩
    rcases q with q | q
    · refine q.mono fun xs H1 ⟨J, hj, r⟩ => ?_
      unfold srcJ1 at hj
      split at hj <;> first
        | exact hj.elim
        | (cases ‹IK.rng2 = _›; done)
        | (obtain ⟨b1, rfl⟩ := hj; exact ⟨_, _, rfl, ⟨Int.le_trans (by decide) b1.1, Int.lt_of_lt_of_le b1.2.1 (by decide), Int.le_trans (by decide) b1.2.2.1, Int.lt_of_lt_of_le b1.2.2.2 (by decide)⟩, r⟩)
    · refine q.mono fun xs H1 ⟨J, hj, r⟩ => ?_
      unfold srcJ2 at hj
      split at hj <;> first
        | exact hj.elim
        | (cases ‹IK.rng2 = _›; done)
  · cases h
  · split at h
    · rename_i a hea
      obtain ⟨p, pos, es, kk, tp, rfl, hg, rfl⟩ := enumArg_ok hea
      obtain ⟨c', h1, h2⟩ := Option.map_eq_some_iff.mp h
      cases h2
      obtain ⟨g1, g2⟩ := cL_ok (cls := cls) (cal := cal) hp h1
      have ns := (compL_star h1).1
      refine ⟨PI.imp (pi_en (isGl_ok hg) (g.bl "enumerate" (by decide +kernel)) g1 (starEach_ok ns)) fun σ H R q => ?_, fun _ => rfl⟩
      rcases q with q | q
      · refine q.mono fun xs H1 ⟨J, hj, r⟩ => ?_
        unfold srcJ1 at hj
        split at hj <;> first
          | exact hj.elim
          | (cases ‹IK.enum = _›; done)
      · refine q.mono fun xs H1 ⟨J, hj, r⟩ => ?_
        unfold srcJ2 at hj
        split at hj <;> first
          | exact hj.elim
          | (cases ‹IK.enum = _›; done)
          | (obtain ⟨hj, rfl⟩ := hj; exact ⟨_, rfl, hj, r⟩)
    split at h
    · rename_i hns
      obtain ⟨c', h1, h2⟩ := Option.map_eq_some_iff.mp h
      cases h2
      have he := hp _ _ h1
      have red : ∀ {σ : L2.St} {H : Hp} {Q : List V → Hp → Prop}, tG X.K cls (RDs X.K) (evs cal (.ac c' .an)) σ H Q → tE X.K cls (ev cal c') σ H fun x H1 => Q [x] H1 := fun {σ H Q} ⟨ρ, env, h, er, hr, hf⟩ => by
        rw [evs] at hf
        refine tG.bind er hr hf fun x H1 ρ1 d1 h1 x1 k1 rx hr1 er1 hf1 => ?_
        rw [evs] at hf1
        exact FinG.self hf1 (RDs.cons rx RDs.nil) hr1
      refine ⟨PI.imp (PI.or (pi_list he) (pi_tup he)) fun σ H R q => ?_, folded_ok hns⟩
      rcases q with q | q
      · refine .inl ((red q).mono fun x H1 ⟨J, hj, r⟩ => ?_)
        unfold srcJ1 at hj
        split at hj <;> first
          | exact hj.elim
          | (cases ‹IK.seq = _›; done)
          | skip
        rename_i e
        cases e
        obtain ⟨hj, rfl⟩ := hj
        exact ⟨_, rfl, hj, r⟩
      · refine .inr ((red q).mono fun x H1 ⟨J, hj, r⟩ => ?_)
        unfold srcJ2 at hj
        split at hj <;> first
          | exact hj.elim
          | (cases ‹IK.seq = _›; done)
          | skip
        rename_i e
        cases e
        obtain ⟨hj, rfl⟩ := hj
        exact ⟨_, rfl, hj, r⟩
    · cases h

/-! ### targets -/
theorem tgName_ok {N : List Str} {ok : Str → Bool} {e : Expr} {i : Nat} (h : tgName N ok e = some i) : ∃ x p, e = .Name x p ∧ ok x = true ∧ N[i]? = some x := by
  unfold tgName at h
  split at h
  · split at h
    · exact ⟨_, _, rfl, by assumption, ixOf_ok h⟩
    · cases h
  · cases h
theorem pgs_ok {ok : Str → Bool} (hN : X.N.Nodup) (hok : ∀ x, ok x = true → Loc X.env.scope x ∧ (X.fn x = true ∨ X.env.scope.names.lookup x = some .local)) : ∀ {es : List Expr} {is : List Nat}, mapO (tgName X.N ok) es = some is → PGs X es (gNames is)
  | [], _, h => by cases h; exact pgs_nil
  | e :: es, is, h => by
    rw [mapO] at h
    split at h
    · rename_i i h1
      split at h
      · rename_i is' h2
        cases h
        obtain ⟨x, p, rfl, hx, hi⟩ := tgName_ok h1
        exact pgs_cons (pg_name hN hi (hok x hx).1 (hok x hx).2) (pgs_ok hN hok h2)
      · cases h
    · cases h
theorem asg_len {ok : Str → Bool} {N : List Str} {env : Env} : ∀ {es : List Expr} {is : List Nat}, mapO (tgName N ok) es = some is → (assignEach es env).length = is.length ∧ (assignEach es env).findIdx? (·.1) = none
  | [], _, h => by cases h; exact ⟨rfl, rfl⟩
  | e :: es, is, h => by
    rw [mapO] at h
    split at h
    · rename_i i h1
      split at h
      · rename_i is' h2
        cases h
        obtain ⟨x, p, rfl, hx, hi⟩ := tgName_ok h1
        obtain ⟨e1, e2⟩ := asg_len (env := env) h2
        simp [assignEach, List.findIdx?_cons, e1, e2]
      · cases h
    · cases h
theorem cp_tg {ok : Str → Bool} {tg : Expr} {t : Tg} (hc : X.calm = true) (hN : X.N.Nodup) (hok : ∀ x, ok x = true → Loc X.env.scope x ∧ (X.fn x = true ∨ X.env.scope.names.lookup x = some .local)) (h : compTg X.N ok tg = some t) : PG X tg (gT X.K cls t) := by
  unfold compTg at h
  split at h
  · obtain ⟨i, h1, rfl⟩ := Option.map_eq_some_iff.mp h
    obtain ⟨x, p, e, hx, hi⟩ := tgName_ok h1
    cases e
    exact pg_one (pg_name hN hi (hok _ hx).1 (hok _ hx).2)
  · obtain ⟨is, h1, rfl⟩ := Option.map_eq_some_iff.mp h
    obtain ⟨e1, e2⟩ := asg_len (env := X.env) h1
    exact pg_tupT (pg_tup hc (pgs_ok hN hok h1) e1 e2)
  · cases h

/-! ### comprehensions -/
theorem Good.blk (g : Good X cls Γ cal k) (s : Shared) (H : Hp) (scope : Scope) (C : Addr) (cl : List (Str × Addr)) (fp : List Addr) : Good (X.blk s H scope (compEnvC scope cl C X.env) fp) cls Γ cal k :=
  ⟨g.calm, g.nd, g.N, g.room, rfl, g.fns, g.bl, g.cst⟩
theorem relS_local {scope sc : Scope} {x : Str} (h : scope.names.lookup x = some .local) : (relS scope sc).names.lookup x = some .local := lookup_relS_keep (by decide) h
def testOf (cal : Cal) (ifs : Bool) (c : CE) : Env' → AH → Rs Bool := if ifs then fun e2 h3 => (ev cal c e2 h3).bind fun x h4 => ofO (truD h4 x) h4 else fun _ h3 => .ok true h3
theorem lc_red {ik : IK} {src c el : CE} {t : Tg} {own : List Nat} {ifs : Bool} (htg : ∀ i ∈ tgIx t, i ∈ own) : ∀ σ H Q, tE X.K cls (ev cal (.lc ik src t own ifs c el)) σ H Q →
    tLc (tI X.K cls (evs cal src) ik) (gT X.K cls t) (tT X.K cls (testOf cal ifs c)) (tE X.K cls (ev cal el)) own σ H Q := fun σ H Q ⟨ρ, env, h, er, hr, hf⟩ => by
  rw [ev] at hf
  cases q : evs cal src env h with
  | ex _ _ => rw [q] at hf; exact hf.elim
  | no => rw [q] at hf; exact hf.elim
  | ok as h1 =>
    rw [q, Rs.bind_ok] at hf
    cases e : srcOf ik as h1 with
    | none => rw [e] at hf; exact hf.elim
    | some s =>
      rw [e] at hf
      refine tI_intro er hr q e fun xs H1 ρ1 J x1 k1 hr1 rx hj => ?_
      intro Dn hD
      have k0 : Keep H1 (upd H1 Dn (.lst [])) := Keep.fresh hD
      have hr2 := hr1.alloc (ob := .lst []) hD ⟨[], upd_same, RDs.nil⟩
      have hm : (ρ1 ++ [Dn])[h1.length]? = some Dn := by
        rw [hr1.len, List.getElem?_append_right (Nat.le_refl _)]
        simp
      have hj2 : IsSrc X.K cls (ρ1 ++ [Dn]) (upd H1 Dn (.lst [])) s J := fun ρ' H' h' ds x k' => hj ρ' H' h' ds (Ext.snoc.trans x) (k0.trans k')
      have er2 := er.mono (x1.trans (Ext.snoc (p := Dn))) (k1.trans k0)
      have hf2 := FinG.weaken (R := RD X.K) hf (x1.trans (Ext.snoc (p := Dn))) (k1.trans k0)
      cases s with
      | ds ds => exact lc_ds hj2 htg er2 hr2 hm hf2
      | ln n tot => exact lc_ln hj2 htg er2 hr2 hm hf2
end Rf

namespace Rf
open PySem PySem.Spec PyProof.Rows L2

/-! ### the checker of expressions -/
def compC (f : Expr → Option CE) (a : Expr) : List CmpOp → List Expr → Option CE
  | [op], [b] => match op, b with
    | .Is, .Constant .none _ _ => (f a).map (.isN false)
    | .IsNot, .Constant .none _ _ => (f a).map (.isN true)
    | op, b => if plainE b then (match copOf op, f a, f b with
      | some o, some ca, some cb => some (.cmp o ca cb)
      | _, _, _ => none) else none
  | [op, op'], [b, c] => if plainE c then (match copOf op, copOf op', f a, f b, f c with
      | some o, some o', some ca, some cb, some cc => some (.chain o o' ca cb cc)
      | _, _, _, _, _ => none) else none
  | _, _ => none
def defIx (Γ : Names) (x : Str) : Option Nat := Γ.defs.findIdx? fun d => decide (d.1 = x)
def posIx (Γ : Names) (i : Nat) : Bool := match Γ.defs[i]? with
  | some (_, _, pl) => pl
  | none => false
def kwIx (Γ : Names) (i n : Nat) (ks : List Str) : Option (List Nat) := (Γ.kws.find? fun q => decide (q.1 = i) && decide (q.2.1 = n) && decide (q.2.2.1 = ks)).map (·.2.2.2)
def compIsi (f : Expr → Option CE) (sc : Scope) : List Expr → Option CE
  | [a, .Name y _] => if notStar a && isGl sc y then (match tyOf y, f a with
    | some t, some c => some (.isi t c)
    | _, _ => none) else none
  | _ => none
def compCall (Γ : Names) (f : Expr → Option CE) (sc : Scope) (x : Str) (args : List Expr) (kws : List Keyword) : Option CE :=
  if isGl sc x && okName x then
    match kws with
    | [] => match defIx Γ x with
      | some i => if posIx Γ i then (compL f args).map (.call i) else none
      | none => if x = "isinstance" then compIsi f sc args else
        match args with
        | [] => none
        | a :: es => match bltOf x (a :: es).length, compL f (a :: es) with
          | some b, some c => some (.blt b c)
          | _, _ => none
    | kw :: kwr => match defIx Γ x, kwNames (kw :: kwr), args with
      | some i, some ks, a :: es => match kwIx Γ i (a :: es).length ks, compL f (a :: es), compL f ((kw :: kwr).map (·.value)) with
        | some pm, some ca, some cb => some (.callk i pm ca cb)
        | _, _, _ => none
      | _, _, _ => none
  else none
def compMth (f : Expr → Option CE) (o : Expr) (m : Str) (apos : Pos) (args : List Expr) (pos : Pos) : Option CE :=
  if baseOk o && (apos.endLine == pos.line) && decide (args.length < 30) then
    match mthOf m args.length, f o, compL f args with
    | some k, some co, some ca => some (.mth k co ca)
    | _, _, _ => none
  else none
def optE (f : Expr → Option CE) : Option Expr → Option CE
  | none => some .an
  | some e => f e
def compLc (Γ : Names) (f : Expr → Option CE) (f2 : Expr → Option CE) (sc sc2 scope : Scope) (elt : Expr) (g : Comprehension) : Option CE :=
  if g.is_async = 0 then
    match compSrc f sc g.target g.iter, compTg Γ.N (isLocal sc2) g.target, ownOf Γ.N scope, f2 elt with
    | some (ik, src), some t, some own, some el =>
      if blkC Γ.N sc scope own && decide (∀ i ∈ tgIx t, i ∈ own.map (·.2)) then
        match g.ifs with
        | [] => some (.lc ik src t (own.map (·.2)) false .an el)
        | [c] => (f2 c).map fun cc => .lc ik src t (own.map (·.2)) true cc el
        | _ => none
      else none
    | _, _, _, _ => none
  else none
def compStep (Γ : Names) (F : Scope → Expr → Option CE) (sc : Scope) (e : Expr) : Option CE :=
  match e with
    | .Name x _ => if okName x then (match ixOf Γ.N x with
      | some i => if isVis sc x then some (.var i) else none
      | none => if isGl sc x then (Γ.consts.lookup x).map .cst else none) else none
    | .Constant c _ _ => (constOf c).map .cst
    | .BinOp a op b _ => match bopOf op, F sc a, F sc b with
      | some o, some ca, some cb => some (.bin o ca cb)
      | _, _, _ => none
    | .UnaryOp .USub a _ => (F sc a).map .neg
    | .UnaryOp .Not a _ => (F sc a).map .not
    | .BoolOp op es _ => compB op (F sc) es
    | .Compare a ops bs _ => compC (F sc) a ops bs
    | .IfExp c a b _ => match F sc c, F sc a, F sc b with
      | some cc, some ca, some cb => some (.ite cc ca cb)
      | _, _, _ => none
    | .Tuple es _ _ => if es.length ≤ lim then (compL (F sc) es).map .tup else none
    | .List es _ => if es.length ≤ lim then (compL (F sc) es).map .lst else none
    | .Dict ks vs _ => match inter ks vs with
      | some l => if ks.length ≤ 15 then (compL (F sc) l).map .dic else none
      | none => none
    | .Subscript a (.Slice lo hi none _) _ => match F sc a, optE (F sc) lo, optE (F sc) hi with
      | some ca, some cl, some ch => some (.slc lo.isSome hi.isSome ca cl ch)
      | _, _, _ => none
    | .Subscript a i _ => if plainE i then (match F sc a, F sc i with
      | some ca, some ci => some (.idx ca ci)
      | _, _ => none) else none
    | .Call (.Name x _) args kws _ => compCall Γ (F sc) sc x args kws
    | .Call (.Attribute o m apos) args [] pos => compMth (F sc) o m apos args pos
    | .ListComp elt [g] scope _ => compLc Γ (F sc) (F (relS scope sc)) sc (relS scope sc) scope elt g
    | _ => none

def compE (Γ : Names) : Nat → Scope → Expr → Option CE
  | 0, _, _ => none
  | n + 1, sc, e => compStep Γ (compE Γ n) sc e

/-! ### .. and what it gives -/
variable {X : Cx} {cls : Nat → Option Addr} {cal : Cal} {Γ : Names} {k : Nat}
def tIfT (c t u : TT) : TT := fun σ H Q => c σ H fun b H1 => if b = true then t σ H1 Q else u σ H1 Q
theorem pt_ifExp {c a b : Expr} {tc ta tb : TT} {pos : Pos} (hc : PT X c tc) (ha : PT X a ta) (hb : PT X b tb) : PT X (.IfExp c a b pos) (tIfT tc ta tb) := by
  refine ⟨fun pins s σ H Q I h => ?_⟩
  simp only [PySem.isTrue]
  refine wpAny_bind (thn (hc.run pins s σ H _ I h) fun d s1 ⟨H1, I1, q1⟩ => ?_)
  cases d with
  | true => exact ha.run pins s1 σ H1 Q I1 q1
  | false => exact hb.run pins s1 σ H1 Q I1 q1
theorem ct_ite {c a b : Expr} {cc ca cb : CE} {pos : Pos} (hc : PT X c (tT X.K cls (evT cal cc))) (ha : PT X a (tT X.K cls (evT cal ca))) (hb : PT X b (tT X.K cls (evT cal cb))) : PT X (.IfExp c a b pos) (tT X.K cls (evT cal (.ite cc ca cb))) := by
  refine PT.imp (pt_ifExp hc ha hb) fun σ H Q ⟨ρ, env, h, er, hr, hf⟩ => ⟨ρ, env, h, er, hr, ?_⟩
  rw [evT, ev] at hf
  rw [evT]
  cases q1 : ev cal cc env h with
  | ex _ _ => rw [q1] at hf; exact hf
  | no => rw [q1] at hf; exact hf
  | ok x h2 =>
    rw [q1] at hf
    simp only [Rs.bind] at hf ⊢
    cases q2 : truD h2 x with
    | none => rw [q2] at hf; exact hf
    | some k =>
      rw [q2] at hf
      intro b' H' ρ' x' k' e hr'
      subst e
      cases k with
      | true => rw [if_pos rfl]; exact ⟨ρ', env, h2, er.mono x' k', hr', FinG.weaken (R := RB) hf x' k'⟩
      | false => rw [if_neg Bool.false_ne_true]; exact ⟨ρ', env, h2, er.mono x' k', hr', FinG.weaken (R := RB) hf x' k'⟩
abbrev Both (X : Cx) (cls : Nat → Option Addr) (cal : Cal) (e : Expr) (c : CE) : Prop := PE X e (tE X.K cls (ev cal c)) ∧ PT X e (tT X.K cls (evT cal c))
theorem both_plain {e : Expr} {c : CE} (hp : plainT e = true) (h : PE X e (tE X.K cls (ev cal c))) : Both X cls cal e c := ⟨h, ct_plain hp h⟩
theorem compB_ok {f : Expr → Option CE} {op : BoolOp} {pos : Pos} (hp : ∀ e c, f e = some c → Both X cls cal e c) : ∀ {es : List Expr} {c : CE}, compB op f es = some c →
    PE X (.BoolOp op es pos) (tE X.K cls (ev cal c)) ∧ PW X (.BoolOp op es pos) (tT X.K cls (evT cal c))
  | [], _, h => by cases h
  | [e], c, h => by
    obtain ⟨h1, h2⟩ := hp e c h
    cases op with
    | And => exact ⟨pe_one h1, pw_and1 h2⟩
    | Or => exact ⟨pe_one h1, pw_or1 h2⟩
  | e :: e2 :: es, c, h => by
    rw [compB] at h
    · split at h
      · rename_i c1 c2 q1 q2
        cases h
        obtain ⟨h1, h2⟩ := hp e c1 q1
        obtain ⟨h3, h4⟩ := compB_ok hp q2
        cases op with
        | And => exact ⟨cp_and h1 h3, ct_and h2 h4⟩
        | Or => exact ⟨cp_or h1 h3, ct_or h2 h4⟩
      · cases h
    · intro z; cases z
theorem compC_ok {f : Expr → Option CE} {a : Expr} {pos : Pos} (hu : X.A.units + 66 < cLine) (hp : ∀ e c, f e = some c → Both X cls cal e c) {ops : List CmpOp} {bs : List Expr} {c : CE} (h : compC f a ops bs = some c) : Both X cls cal (.Compare a ops bs pos) c := by
  unfold compC at h
  split at h
  · split at h
    · obtain ⟨c', h1, rfl⟩ := Option.map_eq_some_iff.mp h
      have q := (hp _ _ h1).1
      exact ⟨cp_isN (n := false) q, ct_isN (n := false) q⟩
    · obtain ⟨c', h1, rfl⟩ := Option.map_eq_some_iff.mp h
      have q := (hp _ _ h1).1
      exact ⟨cp_isN (n := true) q, ct_isN (n := true) q⟩
    · split at h
      · rename_i hb
        split at h
        · rename_i o ca cb e1 e2 e3
          cases h
          exact ⟨cp_cmp hu e1 hb (hp _ _ e2).1 (hp _ _ e3).1, ct_cmp hu e1 hb (hp _ _ e2).1 (hp _ _ e3).1⟩
        · cases h
      · cases h
  · split at h
    · rename_i hc
      split at h
      · rename_i o o' ca cb cc e1 e2 e3 e4 e5
        cases h
        exact ⟨cp_chain hu e1 e2 hc (hp _ _ e3).1 (hp _ _ e4).1 (hp _ _ e5).1, ct_chain hu e1 e2 hc (hp _ _ e3).1 (hp _ _ e4).1 (hp _ _ e5).1⟩
      · cases h
    · cases h
  · cases h
theorem defIx_ok {x : Str} {i : Nat} (h : defIx Γ x = some i) : ∃ ps pl, Γ.defs[i]? = some (x, ps, pl) := by
  obtain ⟨h1, h2, _⟩ := List.findIdx?_eq_some_iff_getElem.mp h
  have e := of_decide_eq_true h2
  exact ⟨Γ.defs[i].2.1, Γ.defs[i].2.2, by rw [List.getElem?_eq_getElem h1, ← e]⟩
theorem compCall_ok {f : Expr → Option CE} {x : Str} {p pos : Pos} {args : List Expr} {kws : List Keyword} {c : CE} (g : Good X cls Γ cal k) (hp : ∀ e c, f e = some c → PE X e (tE X.K cls (ev cal c))) (h : compCall Γ f X.env.scope x args kws = some c) :
    PE X (.Call (.Name x p) args kws pos) (tE X.K cls (ev cal c)) := by
  unfold compCall at h
  split at h
  · rename_i hg
    rw [Bool.and_eq_true] at hg
    split at h
    · split at h
      · rename_i i hi
        obtain ⟨ps, pl, hd⟩ := defIx_ok hi
        split at h
        · rename_i hpos
          unfold posIx at hpos
          rw [hd] at hpos
          dsimp only at hpos
          subst hpos
          obtain ⟨c', h1, rfl⟩ := Option.map_eq_some_iff.mp h
          cases args with
          | nil => cases h1; exact cp_call0 g hd hg.1 hg.2
          | cons a es =>
            obtain ⟨g1, g2⟩ := cL_ok (cls := cls) (cal := cal) hp h1
            exact cp_call g hd hg.1 hg.2 g2 g1
        · cases h
      · split at h
        · rename_i hx
          subst hx
          unfold compIsi at h
          split at h
          · split at h
            · rename_i hn
              rw [Bool.and_eq_true] at hn
              split at h
              · rename_i e1 e2
                cases h
                exact cp_isi g e1 hg.1 hn.2 hn.1 (hp _ _ e2)
              · cases h
            · cases h
          · cases h
        · split at h
          · cases h
          · split at h
            · rename_i b c' e1 e2
              cases h
              obtain ⟨g1, g2⟩ := cL_ok (cls := cls) (cal := cal) hp e2
              exact cp_blt g e1 hg.1 g2 g1
            · cases h
    · split at h
      · rename_i i ks a es e1 e2
        split at h
        · rename_i pm ca cb e3 e4 e5
          cases h
          obtain ⟨ps, pl, hd⟩ := defIx_ok e1
          obtain ⟨g1, g2⟩ := cL_ok (cls := cls) (cal := cal) hp e4
          unfold kwIx at e3
          obtain ⟨q, q1, q2⟩ := Option.map_eq_some_iff.mp e3
          have m := List.mem_of_find?_eq_some q1
          have q3 := List.find?_some q1
          simp only [Bool.and_eq_true, decide_eq_true_eq] at q3
          obtain ⟨⟨z1, z2⟩, z3⟩ := q3
          obtain ⟨q4, q5, q6, q7⟩ := q
          simp only at z1 z2 z3 q2
          subst z1 z3 q2
          exact cp_callk g hd m z2.symm e2 hg.1 hg.2 g2 e4 g1 e5 hp
        · cases h
      · cases h
  · cases h
theorem compLc_ok {f f2 : Expr → Option CE} {elt : Expr} {gen : Comprehension} {scope : Scope} {pos : Pos} {c : CE} (g : Good X cls Γ cal k) (hp : ∀ e c, f e = some c → PE X e (tE X.K cls (ev cal c)))
    (hp2 : ∀ e c, f2 e = some c → ∀ (s : Shared) (H : Hp) (C : Addr) (cl : List (Str × Addr)) (fp : List Addr), Both (X.blk s H scope (compEnvC scope cl C X.env) fp) cls cal e c)
    (h : compLc Γ f f2 X.env.scope (relS scope X.env.scope) scope elt gen = some c) : PE X (.ListComp elt [gen] scope pos) (tE X.K cls (ev cal c)) ∧ ∃ own : List (Str × Nat), ∃ wi gg tt te, PI X gen.target gen.iter wi ∧ BlkOk X.N X.env.scope scope own ∧
      (∀ (s : Shared) (H : Hp) (C : Addr) (cl : List (Str × Addr)) (fp : List Addr), PG (X.blk s H scope (compEnvC scope cl C X.env) fp) gen.target gg ∧ PTs (X.blk s H scope (compEnvC scope cl C X.env) fp) gen.ifs tt ∧ PE (X.blk s H scope (compEnvC scope cl C X.env) fp) elt te) ∧
      (∀ x, foldedSetIterable gen.iter X.env x = pure x) ∧ gen.is_async = 0 ∧ ∀ σ H Q, tE X.K cls (ev cal c) σ H Q → tLc wi gg tt te (own.map (·.2)) σ H Q := by
  obtain ⟨tg, iter, ifs, asy⟩ := gen
  unfold compLc at h
  simp only at h
  split at h
  · rename_i ha
    subst ha
    split at h
    · rename_i ik src t own el e1 e2 e3 e4
      split at h
      · rename_i hb
        rw [Bool.and_eq_true] at hb
        obtain ⟨hb1, hb2⟩ := hb
        have hb2 := of_decide_eq_true hb2
        obtain ⟨s1, s2⟩ := cp_src (tg := tg) (cls := cls) (cal := cal) g hp e1
        have hblk : BlkOk X.N X.env.scope scope own := blkOk_by (by rw [g.N]; exact hb1)
        have htg : ∀ (s : Shared) (H : Hp) (C : Addr) (cl : List (Str × Addr)) (fp : List Addr), PG (X.blk s H scope (compEnvC scope cl C X.env) fp) tg (gT X.K cls t) := fun s H C cl fp => by
          have gb := g.blk s H scope C cl fp
          exact cp_tg (X := X.blk s H scope (compEnvC scope cl C X.env) fp) gb.calm gb.nd (fun x hx => ⟨.inl (isLocal_ok hx), .inr (isLocal_ok hx)⟩) (by rw [gb.N]; exact e2)
        split at h
        · cases h
          have all : ∀ (s : Shared) (H : Hp) (C : Addr) (cl : List (Str × Addr)) (fp : List Addr), PTs (X.blk s H scope (compEnvC scope cl C X.env) fp) [] (tT X.K cls (testOf cal false .an)) := fun s H C cl fp => ⟨fun pins s' σ H' Q I ⟨ρ, env, h, er, hr, hf⟩ =>
            (pts_nil (X := X.blk s H scope (compEnvC scope cl C X.env) fp)).run pins s' σ H' Q I (FinG.self (a := true) hf rfl hr)⟩
          have red := lc_red (X := X) (cls := cls) (cal := cal) (ik := ik) (src := src) (c := .an) (el := el) (ifs := false) hb2
          exact ⟨PE.imp (pe_lc g.calm g.nd s1 hblk htg all (fun s H C cl fp => (hp2 _ _ e4 s H C cl fp).1) s2) red, own, _, _, _, _, s1, hblk, fun s H C cl fp => ⟨htg s H C cl fp, all s H C cl fp, (hp2 _ _ e4 s H C cl fp).1⟩, s2, rfl, red⟩
        · rename_i c1
          obtain ⟨cc, h1, rfl⟩ := Option.map_eq_some_iff.mp h
          have all : ∀ (s : Shared) (H : Hp) (C : Addr) (cl : List (Str × Addr)) (fp : List Addr), PTs (X.blk s H scope (compEnvC scope cl C X.env) fp) [c1] (tT X.K cls (testOf cal true cc)) := fun s H C cl fp => pts_one (hp2 _ _ h1 s H C cl fp).2
          have red := lc_red (X := X) (cls := cls) (cal := cal) (ik := ik) (src := src) (c := cc) (el := el) (ifs := true) hb2
          exact ⟨PE.imp (pe_lc g.calm g.nd s1 hblk htg all (fun s H C cl fp => (hp2 _ _ e4 s H C cl fp).1) s2) red, own, _, _, _, _, s1, hblk, fun s H C cl fp => ⟨htg s H C cl fp, all s H C cl fp, (hp2 _ _ e4 s H C cl fp).1⟩, s2, rfl, red⟩
        · cases h
      · cases h
    · cases h
  · cases h
theorem co_opt {f : Expr → Option CE} (hp : ∀ e c, f e = some c → PE X e (tE X.K cls (ev cal c))) {o : Option Expr} {c : CE} (h : optE f o = some c) : PO X o (tO X.K cls (evO cal o.isSome c)) := by
  cases o with
  | none => cases h; exact co_none
  | some e => exact co_some (hp e c h)
theorem compE_ok : ∀ (n : Nat) (sc : Scope) (e : Expr) (c : CE), compE Γ n sc e = some c → ∀ X : Cx, Good X cls Γ cal k → X.env.scope = sc → Both X cls cal e c
  | 0, _, _, _, h => by cases h
  | n + 1, sc, e, c, h => fun X g hsc => by
    subst hsc
    have ih : ∀ e c, compE Γ n X.env.scope e = some c → Both X cls cal e c := fun e c h => compE_ok n _ e c h X g rfl
    have ih1 : ∀ e c, compE Γ n X.env.scope e = some c → PE X e (tE X.K cls (ev cal c)) := fun e c h => (ih e c h).1
    have hu := g.room.units
    have hu66 : X.A.units + 66 < cLine := by have := g.room.un; omega
    rw [compE] at h
    unfold compStep at h
    split at h
    · split at h
      · rename_i ho
        split at h
        · rename_i i hi
          split at h
          · rename_i hv
            cases h
            exact both_plain rfl (cp_var (by rw [g.N]; exact ixOf_ok hi) hv ho)
          · cases h
        · split at h
          · rename_i hg
            obtain ⟨d, h1, rfl⟩ := Option.map_eq_some_iff.mp h
            obtain ⟨u, v, m1, m2, m3⟩ := g.cst _ d h1
            exact both_plain rfl (cp_cst (pe_glob (isGl_ok hg) m1 m2 (okName_ok ho).1) m3)
          · cases h
      · cases h
    · rename_i cn j pos
      obtain ⟨d, h1, rfl⟩ := Option.map_eq_some_iff.mp h
      cases cn <;> simp [constOf] at h1 <;> subst h1
      · exact both_plain rfl (cp_cst pe_non fun _ _ => RD.non)
      · exact both_plain rfl (cp_cst pe_bl fun _ _ => RD.bl)
      · exact both_plain rfl (cp_cst pe_int fun _ _ => RD.int)
      · exact both_plain rfl (cp_cst pe_str fun _ _ => by have := @RD.str X.K; rename_i s ρ H; rw [← S_of s]; rw [S_cps]; exact RD.str)
    · split at h
      · rename_i o ca cb e1 e2 e3
        cases h
        exact both_plain rfl (cp_bin e1 (ih1 _ _ e2) (ih1 _ _ e3))
      · cases h
    · obtain ⟨c', h1, rfl⟩ := Option.map_eq_some_iff.mp h
      exact both_plain rfl (cp_neg (ih1 _ _ h1))
    · obtain ⟨c', h1, rfl⟩ := Option.map_eq_some_iff.mp h
      exact ⟨cp_not (ih1 _ _ h1), ct_not (ih _ _ h1).2⟩
    · obtain ⟨h1, h2⟩ := compB_ok ih h
      exact ⟨h1, h2.pt⟩
    · exact compC_ok hu66 ih h
    · split at h
      · rename_i cc ca cb e1 e2 e3
        cases h
        exact ⟨cp_ite (ih _ _ e1).2 (ih1 _ _ e2) (ih1 _ _ e3), ct_ite (ih _ _ e1).2 (ih _ _ e2).2 (ih _ _ e3).2⟩
      · cases h
    · split at h
      · rename_i hl
        obtain ⟨c', h1, rfl⟩ := Option.map_eq_some_iff.mp h
        exact both_plain rfl (cp_tup (cL_ok ih1 h1).1 h1 hl)
      · cases h
    · split at h
      · rename_i hl
        obtain ⟨c', h1, rfl⟩ := Option.map_eq_some_iff.mp h
        exact both_plain rfl (cp_lst (cL_ok ih1 h1).1 h1 hl)
      · cases h
    · split at h
      · rename_i l hi
        split at h
        · rename_i h15
          obtain ⟨c', h1, rfl⟩ := Option.map_eq_some_iff.mp h
          refine both_plain rfl ?_
          rename_i ks vs pos _
          cases ks with
          | nil =>
            cases vs with
            | nil =>
              cases hi
              cases h1
              refine PE.imp pe_dnewK fun σ H Q ⟨ρ, env, h, er, hr, hf⟩ p hpn => ?_
              rw [ev, evs, Rs.bind_ok] at hf
              have k0 : Keep H (upd H p (.dK [])) := Keep.fresh hpn
              have hg : (h ++ [Ob.dic []])[h.length]? = some (.dic []) := by simp
              rw [hg] at hf
              have hg2 : (ρ ++ [p])[h.length]? = some p := by rw [hr.len, List.getElem?_append_right (Nat.le_refl _)]; simp
              have e3 : (h ++ [Ob.dic []]).set h.length (.dic []) = h ++ [Ob.dic []] := by simp
              have hf2 : FinG X.K cls (RD X.K) ρ H Q (.ok (.ref h.length) ((h ++ [Ob.dic []]).set h.length (.dic []))) := hf
              rw [e3] at hf2
              exact hf2 (.ref p) _ (ρ ++ [p]) Ext.snoc k0 (RD.ref hg2) (hr.alloc (ob := .dic []) hpn ⟨[], upd_same, .nil⟩)
            | cons v vs => cases hi
          | cons kk ks => exact cp_dic ih1 hi h1 (by simp) h15
        · cases h
      · cases h
    · split at h
      · rename_i ca cl ch e1 e2 e3
        cases h
        exact both_plain rfl (cp_slc (ih1 _ _ e1) (co_opt ih1 e2) (co_opt ih1 e3))
      · cases h
    · split at h
      · rename_i hpl
        split at h
        · rename_i ca ci e1 e2
          cases h
          exact both_plain rfl (cp_idx (by omega) hpl (ih1 _ _ e1) (ih1 _ _ e2))
        · cases h
      · cases h
    · exact both_plain rfl (compCall_ok g ih1 h)
    · unfold compMth at h
      split at h
      · rename_i hb
        simp only [Bool.and_eq_true, decide_eq_true_eq] at hb
        split at h
        · rename_i m co ca e1 e2 e3
          cases h
          rename_i args pos _ _ _
          refine both_plain rfl ?_
          cases args with
          | nil => cases e3; exact cp_mth0 e1 hb.1.1 hb.1.2 (ih1 _ _ e2)
          | cons b es =>
            obtain ⟨g1, g2⟩ := cL_ok (cls := cls) (cal := cal) ih1 e3
            exact cp_mth g e1 hb.1.1 hb.1.2 hb.2 g2 (ih1 _ _ e2) g1
        · cases h
      · cases h
    · exact both_plain rfl (compLc_ok g ih1 (fun e c h s H C cl fp => compE_ok n _ e c h _ (g.blk s H _ C cl fp) rfl) h).1
    · cases h
end Rf

namespace Rf
open PySem PySem.Spec PyProof.Rows L2

/-! ### the checker of statements -/
def compSs (f : Stmt → Option CS) : List Stmt → Option CS
  | [] => some .skip
  | s :: ss => match f s, compSs f ss with
    | some a, some b => some (.seq a b)
    | _, _ => none
/-- a comprehension stored to a name -/
def lcName (sc : Scope) (x : Str) (p : Pos) (scope : Scope) (pos spos : Pos) : Bool :=
  isLocal sc x && (p.line == pos.line) && !(scope.names.any fun (n, k) => n == x && (k == .local || k == .cell)) && (match sc.kind with | .function => true | _ => false)
def isCell (sc : Scope) (x : Str) : Bool := match sc.names.lookup x with
  | some .cell => true | _ => false
def notTup : Expr → Bool
  | .Tuple .. => false | _ => true
def isRaise : Stmt → Bool
  | .Raise .. => true | .Try .. => true | _ => false
def compStepS (Γ : Names) (E : Expr → Option CE) (sc : Scope) (F : Stmt → Option CS) (st : Stmt) : Option CS :=
  match st with
  | .Assign [.Name x p] (.ListComp elt [gen] scope lpos) pos => if isLoc sc x && okName x && (isCell sc x || lcName sc x p scope lpos pos) then (match ixOf Γ.N x, E (.ListComp elt [gen] scope lpos) with
    | some i, some c => some (.set i c)
    | _, _ => none) else none
  | .Assign [.Name x _] e _ => if isLoc sc x && okName x && plainE e then (match ixOf Γ.N x, E e with
    | some i, some c => some (.set i c)
    | _, _ => none) else none
  | .Assign [.Tuple ts _ _] e _ => if plainE e && notTup e then (match mapO (tgName Γ.N (isLoc sc)) ts, E e with
    | some is, some c => some (.setT is c)
    | _, _ => none) else none
  | .Assign [.Subscript o i _] e _ => if plainE i && plainE e then (match E o, E i, E e with
    | some co, some ci, some ce => some (.setIx co ci ce)
    | _, _, _ => none) else none
  | .AugAssign (.Name x _) op e _ => if isLoc sc x && okName x then (match bopOf op, ixOf Γ.N x, E e with
    | some o, some i, some c => some (.aug o i c)
    | _, _, _ => none) else none
  | .AugAssign (.Subscript a i _) op e _ => if plainE i then (match bopOf op, E a, E i, E e with
    | some o, some ca, some ci, some c => some (.augIx o ca ci c)
    | _, _, _, _ => none) else none
  | .If c a b _ => match E c, compSs F a, compSs F b with
    | some cc, some ca, some cb => some (.ife cc ca cb)
    | _, _, _ => none
  | .For tg iter body [] _ => match compSrc E sc tg iter, compTg Γ.N (isLoc sc) tg, compSs F body with
    | some (ik, src), some t, some cb => some (.for_ ik src t cb)
    | _, _, _ => none
  | .While c body [] _ => match E c, compSs F body with
    | some cc, some cb => some (.whl cc cb)
    | _, _ => none
  | .Return (some e) _ => (E e).map .ret
  | .Return none _ => some .retN
  | .Expr e _ => if plainE e then (E e).map .expr else none
  | .Pass _ => some .skip
  | .Break _ => some .brk
  | .Continue _ => some .cnt
  | st => if isRaise st then some .stuck else none
def compS (Γ : Names) (sc : Scope) : Nat → Stmt → Option CS
  | 0, _ => none
  | n + 1, st => compStepS Γ (compE Γ 100 sc) sc (compS Γ sc n) st

variable {X : Cx} {cls : Nat → Option Addr} {cal : Cal} {Γ : Names} {k : Nat}

theorem seq_ok {st : Stmt} {ss : List Stmt} {a b : CS} (h1 : PS X st (tS X.K cls (exec cal a))) (h2 : PSs X ss (tS X.K cls (exec cal b))) : PSs X (st :: ss) (tS X.K cls (exec cal (.seq a b))) := by
  refine PSs.imp (pss_cons h1 h2) fun D' σ H ⟨ρ, env, h, er, hr, hf⟩ => ⟨ρ, env, h, er, hr, ?_⟩
  rw [exec] at hf
  cases q : exec cal a env h with
  | ex _ _ => rw [q] at hf; exact hf
  | no => rw [q] at hf; exact hf
  | ok f h1 =>
    rw [q, Rs.bind_ok] at hf
    cases f with
    | nx e1 => exact fun σ' H' ρ' x kk er' hr' => ⟨ρ', e1, h1, er', hr', FinS.weaken hf x kk⟩
    | rt d => exact hf
    | bk e1 => exact hf
    | ct e1 => exact hf
theorem compSs_ok {f : Stmt → Option CS} (hp : ∀ s c, f s = some c → PS X s (tS X.K cls (exec cal c))) : ∀ {ss : List Stmt} {c : CS}, compSs f ss = some c → PSs X ss (tS X.K cls (exec cal c))
  | [], c, h => by
    cases h
    refine PSs.imp pss_nil fun D' σ H ⟨ρ, env, h, er, hr, hf⟩ => ?_
    rw [exec] at hf
    exact hf σ H ρ Ext.refl Keep.refl er hr
  | s :: ss, c, h => by
    rw [compSs] at h
    split at h
    · rename_i a b e1 e2
      cases h
      exact seq_ok (hp _ _ e1) (compSs_ok hp e2)
    · cases h
/-- o[i] read, by values -/
def rGetL : R2 := fun x y H Q => ∃ p xs i v, x = .ref p ∧ y = .int i ∧ H p = some (.lst xs) ∧ atI xs i = some v ∧ Q v H
theorem get_list : PGet X rGetL := by
  intro pins s σ H o i ov iv Q I ro ri ⟨p, xs, z, v, e1, e2, hp, ha, q⟩
  subst e1 e2
  obtain rfl : ov = Value.ref p := ro
  obtain ⟨t, rfl⟩ := ri
  obtain ⟨its, n, r, ho, hz⟩ := I.lst hp
  obtain ⟨j, g1, g2, g3, g4, g5⟩ := atI_get ha
  obtain ⟨w, ew, rw'⟩ := r.get g2
  have hl := r.length
  have hn := line63
  have pl : s.heap.IsList p its.toArray := PlainL.isList ⟨_, n, ho, rfl, rfl, rfl⟩
  have fin : EP X pins σ Q w s := ⟨v, H, I, rw', q⟩
  by_cases h0 : 0 ≤ z
  · have hj : z.toNat = j := by
      rw [seqIndex_of h0 g5] at g1
      exact Option.some.inj g1
    exact wpAny_getItem_list pl h0 (by omega) (by rw [hj]; simpa using ew) fin
  · have hj : (z + (its.toArray.size : Int)).toNat = j := by
      rw [seqIndex_neg (by omega) g4] at g1
      rw [List.size_toArray, ← hl]
      exact Option.some.inj g1
    exact wpAny_getItem_list_neg pl (by omega) (by rw [List.size_toArray] <;> omega) (by omega) (by rw [hj]; simpa using ew) fin
theorem get_dict (hu : X.A.units + 1 < cLine) : PGet X rIxD := by
  intro pins s σ H o i ov iv Q I ro ri ⟨a, z, e, g, q⟩
  subst e
  obtain rfl : ov = Value.ref a := ro
  exact d_getItem hu I g ri fun w' s3 I3 rw' => ⟨z, H, I3, rw', q⟩
theorem get_all (hu : X.A.units + 1 < cLine) : PGet X (r2 X.K cls idxM) := by
  intro pins s σ H o i ov iv Q I ro ri ⟨ρ, h, a, b, hr, rx, ry, hf⟩
  unfold idxM at hf
  split at hf
  · unfold idxD at hf
    simp only at hf
    split at hf
    · rename_i hn
      split at hf
      · obtain ⟨d, e, hf⟩ := ofO_some hf
        obtain ⟨p, xs, rfl, _, hp, rp⟩ := hr.lst hn rx
        obtain ⟨z, h1, h2⟩ := atD_ok rp e
        exact get_list pins s σ H _ _ ov iv Q I ro ri ⟨p, xs, _, z, rfl, ry.int_e, hp, h1, hf.self h2 hr⟩
      · exact hf.elim
    · rename_i hn
      split at hf
      · rename_i hk
        obtain ⟨d, e, hf⟩ := ofO_some hf
        obtain ⟨p, ks, rfl, _, hp, rp⟩ := hr.dic hn rx
        have hl := KVs.look (by assumption) rp
        rw [e] at hl
        obtain ⟨z, h1, h2⟩ := hl
        refine get_dict hu pins s σ H _ _ ov iv Q I ro ri ⟨p, z, rfl, ?_, hf.self h2 hr⟩
        rw [keyD_ok ry hk, ← h1]
        exact DGet.k hp
      · exact hf.elim
    · exact hf.elim
  · exact hf.elim
theorem aug_plain {i : Expr} (h : plainE i = true) (ov iv new : Value) : augStore i ov iv new = (do holding [new, ov, iv] (setItem ov iv new); release [new, ov, iv] []; pure .next) := by
  cases i <;> first | (cases h; done) | rfl
theorem swp_none {ts : List Expr} {kk : Nat} {tp : Pos} {e : Expr} {env : Env} (h : notTup e = true) : swappedStores [.Tuple ts kk tp] e env = pure none := by
  cases e <;> first | (cases h; done) | rfl

theorem sole_ok {e t : Expr} {l : Nat} {env : Env} (h : plainE e = true) : swapsWithSole [t] e l env = pure false := by
  unfold swapsWithSole
  exact swaps_ok h
theorem asgSub_ok {o i : Expr} {sp : Pos} {env : Env} (h : plainE i = true) (v : Value) : assign (.Subscript o i sp) env v = (do let a ← holding [v] (eval o env); let b ← holding [v, a] (eval i env); standAt sp; holding [v, a, b] (setItem a b v); release [v, a, b] []) := by
  cases i <;> first | (cases h; done) | (simp only [assign])
theorem ps_set' {i : Nat} {x : Str} {e : Expr} {te : TE} {p pos : Pos} (hN : X.N.Nodup) (hi : X.N[i]? = some x) (hx : Loc X.env.scope x) (hf : X.fn x = true) (he : PE X e te) (hs : swapsWith e (some (.Name x p)) pos.line X.env = pure false) :
    PS X (.Assign [.Name x p] e pos) (tAsg te (gName i)) := ps_set hN hi hx he hs (.inl hf)
theorem cs_set {st : Stmt} {i : Nat} {c : CE} {te : TE} (h : PS X st (tAsg te (gName i))) (ht : ∀ σ H Q, tE X.K cls (ev cal c) σ H Q → te σ H Q) : PS X st (tS X.K cls (exec cal (.set i c))) := by
  refine PS.imp h fun D' σ H ⟨ρ, env, h, er, hr, hf⟩ => ?_
  rw [exec] at hf
  refine ht _ _ _ (tG.bindS er hr hf fun x H1 ρ1 d1 h1 x1 k1 rx hr1 er1 hf1 => ?_)
  exact hf1 _ H1 ρ1 Ext.refl Keep.refl (er1.set i rx) hr1
theorem swap_lc {x : Str} {p lpos spos : Pos} {elt : Expr} {gen : Comprehension} {scope : Scope} {l : Nat} (h : isCell X.env.scope x = true) : swapsWith (.ListComp elt [gen] scope lpos) (some (.Name x p)) l X.env = pure false := by
  unfold isCell at h
  split at h
  · rename_i hx
    have e : X.env.kindOf x = some .cell := hx
    unfold swapsWith
    simp only [e]
    have : (some NameKind.cell == some NameKind.local) = false := by decide
    simp [this]
  · cases h
theorem compStepS_ok {E : Expr → Option CE} {F : Stmt → Option CS} (g : Good X cls Γ cal k) (hfn : ∀ x, X.fn x = true) (hE : ∀ e c, E e = some c → Both X cls cal e c)
    (hLc : ∀ elt gen scope pos c, E (.ListComp elt [gen] scope pos) = some c → ∃ own : List (Str × Nat), ∃ wi gg tt te, PI X gen.target gen.iter wi ∧ BlkOk X.N X.env.scope scope own ∧
      (∀ (s : Shared) (H : Hp) (C : Addr) (cl : List (Str × Addr)) (fp : List Addr), PG (X.blk s H scope (compEnvC scope cl C X.env) fp) gen.target gg ∧ PTs (X.blk s H scope (compEnvC scope cl C X.env) fp) gen.ifs tt ∧ PE (X.blk s H scope (compEnvC scope cl C X.env) fp) elt te) ∧
      (∀ x, foldedSetIterable gen.iter X.env x = pure x) ∧ gen.is_async = 0 ∧ ∀ σ H Q, tE X.K cls (ev cal c) σ H Q → tLc wi gg tt te (own.map (·.2)) σ H Q)
    (hF : ∀ s c, F s = some c → PS X s (tS X.K cls (exec cal c))) {st : Stmt} {c : CS} (h : compStepS Γ E X.env.scope F st = some c) : PS X st (tS X.K cls (exec cal c)) := by
  have hE1 : ∀ e c, E e = some c → PE X e (tE X.K cls (ev cal c)) := fun e c h => (hE e c h).1
  have hu := g.room.units
  have hp : PassesOwn (model X.prog X.w) X.A X.env X.xe := by rw [g.xe]; exact PassesOwn.never
  unfold compStepS at h
  split at h
  · split at h
    · rename_i x p elt gen scope lpos pos hc
      simp only [Bool.and_eq_true, Bool.or_eq_true] at hc
      obtain ⟨⟨hl, ho⟩, hc⟩ := hc
      split at h
      · rename_i i c' e1 e2
        cases h
        have hi : X.N[i]? = some x := by rw [g.N]; exact ixOf_ok e1
        rcases hc with hc | hc
        · exact cs_set (ps_set' g.nd hi (isLoc_ok hl) (hfn x) (hE1 _ _ e2) (swap_lc (spos := pos) hc)) fun _ _ _ q => q
        · unfold lcName at hc
          simp only [Bool.and_eq_true, Bool.not_eq_true'] at hc
          obtain ⟨⟨⟨z1, z2⟩, z3⟩, z4⟩ := hc
          have hk : X.env.scope.kind = .function := by
            split at z4
            · assumption
            · cases z4
          obtain ⟨tg, iter, ifs, asy⟩ := gen
          obtain ⟨own, wi, gg, tt, te, w1, w2, w3, w4, w5, w6⟩ := hLc _ _ _ _ _ e2
          simp only at w1 w3 w4 w5
          subst w5
          exact cs_set (ps_setLc g.calm g.nd hi (isLocal_ok z1) (sw_true hk (isLocal_ok z1) z2 z3) w1 w2 (fun s H C cl fp => (w3 s H C cl fp).1) (fun s H C cl fp => (w3 s H C cl fp).2.1) (fun s H C cl fp => (w3 s H C cl fp).2.2) w4) w6
      · cases h
    · cases h
  · split at h
    · rename_i x p e pos _ hc
      simp only [Bool.and_eq_true] at hc
      split at h
      · rename_i i c' e1 e2
        cases h
        exact cs_set (ps_set' g.nd (by rw [g.N]; exact ixOf_ok e1) (isLoc_ok hc.1.1) (hfn x) (hE1 _ _ e2) (swaps_ok hc.2)) fun _ _ _ q => q
      · cases h
    · cases h
  · split at h
    · rename_i ts kk tp e pos hc
      simp only [Bool.and_eq_true] at hc
      split at h
      · rename_i is c' e1 e2
        cases h
        obtain ⟨l1, l2⟩ := asg_len (env := X.env) e1
        have hpg : PG X (.Tuple ts kk tp) (gT X.K cls (.tup is)) := pg_tupT (pg_tup g.calm (pgs_ok g.nd (fun x hx => ⟨isLoc_ok hx, .inl (hfn x)⟩) (by rw [g.N]; exact e1)) l1 l2)
        refine PS.imp (ps_asg (hE1 _ _ e2) hpg (sole_ok hc.1) (swp_none hc.2) rfl) fun D' σ H ⟨ρ, env, h, er, hr, hf⟩ => ?_
        rw [exec] at hf
        refine tG.bindS er hr hf fun x H1 ρ1 d1 h1 x1 k1 rx hr1 er1 hf1 => ?_
        split at hf1
        · rename_i ds
          split at hf1
          · rename_i e2' hb
            exact ⟨ρ1, env, h1, .tup ds, e2', er1, hr1, rx, hb, fun σ2 er2 _ => hf1 σ2 H1 ρ1 Ext.refl Keep.refl er2 hr1⟩
          · exact hf1.elim
        · exact hf1.elim
      · cases h
    · cases h
  · split at h
    · rename_i o i sp e pos hc
      simp only [Bool.and_eq_true] at hc
      split at h
      · rename_i co ci ce e1 e2 e3
        cases h
        refine PS.imp (ps_asg (hE1 _ _ e3) (pg_sub (hE1 _ _ e1) (hE1 _ _ e2) (set_all (cls := cls) (by omega)) (asgSub_ok hc.1)) (sole_ok hc.2)) fun D' σ H ⟨ρ, env, h, er, hr, hf⟩ => ?_
        rw [exec] at hf
        refine tG.bindS er hr hf fun x H1 ρ1 d1 h1 x1 k1 rx hr1 er1 hf1 => ?_
        refine tG.bindS er1 hr1 hf1 fun y H2 ρ2 d2 h2 x2 k2 ry hr2 er2 hf2 => ?_
        refine tG.bindS er2 hr2 hf2 fun z H3 ρ3 d3 h3 x3 k3 rz hr3 er3 hf3 => ?_
        refine ⟨ρ3, h3, d2, d3, d1, hr3, ry.mono x3 k3, rz, rx.mono (x2.trans x3) (k2.trans k3), ?_⟩
        cases q : sxl h3 d2 d3 d1 with
        | ex _ _ => rw [q] at hf3; exact hf3
        | no => rw [q] at hf3; exact hf3
        | ok u h4 =>
          rw [q, Rs.bind_ok] at hf3
          exact fun _ H' ρ' x' k' _ hr' => hf3 σ H' ρ' x' k' (er3.mono x' k') hr'
      · cases h
    · cases h
  · split at h
    · rename_i x xp op e pos hc
      simp only [Bool.and_eq_true] at hc
      split at h
      · rename_i o i c' e1 e2 e3
        cases h
        refine PS.imp (ps_aug g.nd (by rw [g.N]; exact ixOf_ok e2) (isLoc_ok hc.1) (hE1 _ _ e3) (augD_ok (cls := cls) e1) (.inl (hfn x))) fun D' σ H ⟨ρ, env, h, er, hr, hf⟩ => ?_
        rw [exec] at hf
        split at hf
        · rename_i d hd
          obtain ⟨v, g1, g2⟩ := er.get i d hd
          refine ⟨v, g1, ?_⟩
          refine tG.bindS er hr hf fun y H1 ρ1 d1 h1 x1 k1 rx hr1 er1 hf1 => ?_
          refine ⟨ρ1, h1, d, d1, hr1, g2.mono x1 k1, rx, ?_⟩
          cases q : augD o d d1 h1 with
          | ex _ _ => rw [q] at hf1; exact hf1
          | no => rw [q] at hf1; exact hf1
          | ok z h4 =>
            rw [q, Rs.bind_ok] at hf1
            exact fun w H' ρ' x' k' rw' hr' => hf1 _ H' ρ' x' k' ((er1.mono x' k').set i rw') hr'
        · exact hf.elim
      · cases h
    · cases h
  · split at h
    · rename_i a i sp op e pos hc
      split at h
      · rename_i o ca ci c' e1 e2 e3 e4
        cases h
        refine PS.imp (ps_augS (hE1 _ _ e2) (hE1 _ _ e3) (get_all (cls := cls) (by omega)) (hE1 _ _ e4) (augD_ok (cls := cls) e1) (set_all (cls := cls) (by omega)) (aug_plain hc)) fun D' σ H ⟨ρ, env, h, er, hr, hf⟩ => ?_
        rw [exec] at hf
        refine tG.bindS er hr hf fun x H1 ρ1 d1 h1 x1 k1 rx hr1 er1 hf1 => ?_
        refine tG.bindS er1 hr1 hf1 fun y H2 ρ2 d2 h2 x2 k2 ry hr2 er2 hf2 => ?_
        refine ⟨ρ2, h2, d1, d2, hr2, rx.mono x2 k2, ry, ?_⟩
        cases q : idxM d1 d2 h2 with
        | ex _ _ => rw [q] at hf2; exact hf2
        | no => rw [q] at hf2; exact hf2
        | ok old h3 =>
          rw [q, Rs.bind_ok] at hf2
          intro v H3 ρ3 x3 k3 rv hr3
          refine tG.bindS (er2.mono x3 k3) hr3 (FinS.weaken hf2 x3 k3) fun y2 H4 ρ4 d4 h4 x4 k4 ry2 hr4 er4 hf4 => ?_
          refine ⟨ρ4, h4, old, d4, hr4, rv.mono x4 k4, ry2, ?_⟩
          cases q : augD o old d4 h4 with
          | ex _ _ => rw [q] at hf4; exact hf4
          | no => rw [q] at hf4; exact hf4
          | ok nw h5 =>
            rw [q, Rs.bind_ok] at hf4
            intro w H5 ρ5 x5 k5 rw5 hr5
            refine ⟨ρ5, h5, d1, d2, nw, hr5, rx.mono (((x2.trans x3).trans x4).trans x5) (((k2.trans k3).trans k4).trans k5), ry.mono ((x3.trans x4).trans x5) ((k3.trans k4).trans k5), rw5, ?_⟩
            cases q : sxl h5 d1 d2 nw with
            | ex _ _ => rw [q] at hf4; exact hf4
            | no => rw [q] at hf4; exact hf4
            | ok u h6 =>
              rw [q, Rs.bind_ok] at hf4
              exact fun _ H' ρ' x' k' _ hr' => hf4 σ H' ρ' (x5.trans x') (k5.trans k') ((er4.mono x5 k5).mono x' k') hr'
      · cases h
    · cases h
  · split at h
    · rename_i cc ca cb e1 e2 e3
      cases h
      refine PS.imp (ps_if (hE _ _ e1).2 (compSs_ok hF e2) (compSs_ok hF e3)) fun D' σ H ⟨ρ, env, h, er, hr, hf⟩ => ?_
      rw [exec] at hf
      refine tG.bindS er hr hf fun b H1 ρ1 d1 h1 x1 k1 rx hr1 er1 hf1 => ?_
      cases rx
      cases b with
      | true => rw [if_pos rfl]; exact ⟨ρ1, env, h1, er1, hr1, hf1⟩
      | false => rw [if_neg Bool.false_ne_true]; exact ⟨ρ1, env, h1, er1, hr1, hf1⟩
    · cases h
  · split at h
    · rename_i ik src t cb e1 e2 e3
      cases h
      rename_i tg iter body pos _ _ _
      obtain ⟨s1, s2⟩ := cp_src (tg := tg) (cls := cls) (cal := cal) g hE1 e1
      have hpg : PG X tg (gT X.K cls t) := cp_tg g.calm g.nd (fun x hx => ⟨isLoc_ok hx, .inl (hfn x)⟩) (by rw [g.N]; exact e2)
      refine PS.imp (ps_for hp g.calm s1 hpg (compSs_ok hF e3) s2) fun D' σ H ⟨ρ, env, h, er, hr, hf⟩ => ?_
      rw [exec] at hf
      cases q : evs cal src env h with
      | ex _ _ => rw [q] at hf; exact hf.elim
      | no => rw [q] at hf; exact hf.elim
      | ok as h1 =>
        rw [q, Rs.bind_ok] at hf
        cases e : srcOf ik as h1 with
        | none => rw [e] at hf; exact hf.elim
        | some s =>
          rw [e] at hf
          refine tI_intro er hr q e fun xs H1 ρ1 J x1 k1 hr1 rx hj => ?_
          have hf2 := FinS.weaken hf x1 k1
          cases s with
          | ds ds => exact for_ds hj (er.mono x1 k1) hr1 hf2
          | ln n tot => exact for_ln hj (er.mono x1 k1) hr1 hf2
    · cases h
  · split at h
    · rename_i cc cb e1 e2
      cases h
      refine PS.imp (ps_while hp (hE _ _ e1).2 (compSs_ok hF e2)) fun D' σ H ⟨ρ, env, h, er, hr, hf⟩ => ?_
      rw [exec] at hf
      exact whl_ok (n := turns) ⟨ρ, env, h, er, hr, hf⟩
    · cases h
  · obtain ⟨c', h1, rfl⟩ := Option.map_eq_some_iff.mp h
    refine PS.imp (ps_ret (hE1 _ _ h1)) fun D' σ H ⟨ρ, env, h, er, hr, hf⟩ => ?_
    rw [exec] at hf
    exact tG.bindS er hr hf fun x H1 ρ1 d1 h1 x1 k1 rx hr1 er1 hf1 => hf1 x H1 ρ1 Ext.refl Keep.refl rx hr1
  · cases h
    refine PS.imp ps_retN fun D' σ H ⟨ρ, env, h, er, hr, hf⟩ => ?_
    rw [exec] at hf
    exact hf .non H ρ Ext.refl Keep.refl RD.non hr
  · split at h
    · rename_i hc
      obtain ⟨c', h1, rfl⟩ := Option.map_eq_some_iff.mp h
      refine PS.imp (ps_expr (hE1 _ _ h1) (swaps_ok hc)) fun D' σ H ⟨ρ, env, h, er, hr, hf⟩ => ?_
      rw [exec] at hf
      exact tG.bindS er hr hf fun x H1 ρ1 d1 h1 x1 k1 rx hr1 er1 hf1 => hf1 σ H1 ρ1 Ext.refl Keep.refl er1 hr1
    · cases h
  · cases h
    refine PS.imp ps_pass fun D' σ H ⟨ρ, env, h, er, hr, hf⟩ => ?_
    rw [exec] at hf
    exact hf σ H ρ Ext.refl Keep.refl er hr
  · cases h
    refine PS.imp ps_break fun D' σ H ⟨ρ, env, h, er, hr, hf⟩ => ?_
    rw [exec] at hf
    exact hf σ H ρ Ext.refl Keep.refl er hr
  · cases h
    refine PS.imp ps_continue fun D' σ H ⟨ρ, env, h, er, hr, hf⟩ => ?_
    rw [exec] at hf
    exact hf σ H ρ Ext.refl Keep.refl er hr
  · split at h
    · cases h
      refine PS.imp ps_never fun D' σ H ⟨ρ, env, h, er, hr, hf⟩ => ?_
      rw [exec] at hf
      exact hf
    · cases h
theorem compS_ok (g : Good X cls Γ cal k) (hfn : ∀ x, X.fn x = true) : ∀ (n : Nat) {st : Stmt} {c : CS}, compS Γ X.env.scope n st = some c → PS X st (tS X.K cls (exec cal c))
  | 0, _, _, h => by cases h
  | n + 1, st, c, h => by
    rw [compS] at h
    refine compStepS_ok g hfn (fun e c h => compE_ok 100 _ e c h X g rfl) (fun elt gen scope pos c h => ?_) (fun s c h => compS_ok g hfn n h) h
    have h' : compStep Γ (compE Γ 99) X.env.scope (.ListComp elt [gen] scope pos) = some c := h
    exact (compLc_ok (pos := pos) g (fun e c h => (compE_ok 99 _ e c h X g rfl).1) (fun e c h s H C cl fp => compE_ok 99 _ e c h _ (g.blk s H _ C cl fp) rfl) h').2
end Rf

namespace Rf
open PySem PySem.Spec PyProof.Rows L2

/-! ### every def of the text keeps its promise -/
def DefFact (K : PySem.W.Frag) (mg : Str → Option Value) (T : List Def) (Γ : Names) (i : Nat) (nm : Str) (ps : List Str) (pl : Bool) : Prop :=
  ∃ (f : Addr) (fd : FuncData) (st : Stmt) (N : List Str) (d : Def), mg nm = some (.ref f) ∧ Fun K nm nm st f fd ∧ FnScope N ps (defScope st) ∧ (pl = true → Binds K fd ps []) ∧
    (∀ n ks p, (i, n, ks, p) ∈ Γ.kws → KBinds K fd ps ks (gK n ks.length p) (gK n ks.length p)) ∧
    T[i]? = some d ∧ d.params = ps.length ∧ d.slots = N.length ∧ compSs (compS { Γ with N := N } (defScope st) 40) (defBody st) = some d.body
section
variable {P : Program} {w : World} {K : PySem.W.Frag} {mg : Str → Option Value} {base : Heap} {cls : Nat → Option Addr} {T : List Def} {Γ : Names}
theorem start_ok {ρ : List Addr} {H : Hp} {N : List Str} {d : Def} {ds : List D} {vs : List V} (hs : d.slots = N.length) (r : RDs K ρ H ds vs) : ER K ρ H (startE d ds) (L2.start N vs) := by
  have l := r.length
  refine ⟨?_, fun i x hi => ?_⟩
  · unfold startE L2.start
    simp only [List.length_append, List.length_map, List.length_replicate]
    rw [l, hs]
  · unfold startE at hi
    by_cases h : i < ds.length
    · rw [List.getElem?_append_left (by simpa using h), List.getElem?_map] at hi
      cases e : ds[i]? with
      | none => rw [e] at hi; cases hi
      | some y =>
        rw [e] at hi
        have : y = x := by simpa using hi
        subst this
        obtain ⟨v, h1, h2⟩ := r.get e
        refine ⟨v, ?_, h2⟩
        unfold L2.start
        rw [List.getElem?_append_left (by rw [List.length_map, l]; exact h), List.getElem?_map, h1]
        rfl
    · rw [List.getElem?_append_right (by simpa using h), List.getElem?_replicate] at hi
      split at hi <;> cases hi
theorem fns_ok (defs : ∀ i nm ps pl, Γ.defs[i]? = some (nm, ps, pl) → DefFact K mg T Γ i nm ps pl) (bl : ∀ x ∈ bltNames, mg x = none)
    (cst : ∀ x d, Γ.consts.lookup x = some d → ∃ u v, mg x = some u ∧ RelV v u ∧ ∀ ρ H, RD K ρ H d v) : ∀ (k : Nat) (i : Nat) (nm : Str) (ps : List Str) (pl : Bool), Γ.defs[i]? = some (nm, ps, pl) →
    ∃ f fd, mg nm = some (.ref f) ∧ (∃ st, Fun K nm nm st f fd) ∧ (pl = true → Binds K fd ps []) ∧ FnOk P w K mg base CX0 k f fd ps (spD K cls (calls T k) i) ∧ ∀ n ks p, (i, n, ks, p) ∈ Γ.kws → KBinds K fd ps ks (gK n ks.length p) (gK n ks.length p)
  | 0, i, nm, ps, pl, h => by
    obtain ⟨f, fd, st, N, d, h1, F, h3, h4, h5, _⟩ := defs i nm ps pl h
    have no : ∀ vs H Q E, ¬ spD K cls (calls T 0) i vs H Q E := fun vs H Q E ⟨_, _, _, _, _, hf⟩ => hf
    exact ⟨f, fd, h1, ⟨st, F⟩, h4, ⟨fun vs H Q E q => (no _ _ _ _ q).elim, fun A outer s H args us vs Q E _ _ _ _ q => (no _ _ _ _ q).elim⟩, h5⟩
  | k + 1, i, nm, ps, pl, h => by
    obtain ⟨f, fd, st, N, d, h1, F, S, h4, h5, h6, h7, h8, h9⟩ := defs i nm ps pl h
    refine ⟨f, fd, h1, ⟨st, F⟩, h4, ?_, h5⟩
    have eq : ∀ as h, calls T (k + 1) i as h = runDef (calls T k) d as h := fun as h => by
      rw [calls, h6]
    refine F.ok S (fun vs H Q E ⟨ρ, ds, h, r, hr, hf⟩ => ?_) (fun cdv A outer s H vs Q E hroom ⟨ρ, ds, h, r, hr, hf⟩ => ?_)
    · rw [eq] at hf
      unfold runDef at hf
      split at hf
      · rename_i hl
        rw [r.length, hl, h7]
      · exact hf.elim
    · rw [eq] at hf
      unfold runDef at hf
      split at hf
      · have g : Good (cxOf CX0 P w K mg base N nm (defScope st) f cdv A outer s H E).nox cls { Γ with N := N } (calls T k) k :=
          ⟨rfl, S.nd, rfl, hroom, rfl, fun i nm ps pl h => (by obtain ⟨f, fd, z1, ⟨st, z2⟩, z3, z4, z5⟩ := fns_ok defs bl cst k i nm ps pl h; exact ⟨f, fd, z1, z2.kp, z3, z4, z5⟩), bl, cst⟩
        have body : PSs (cxOf CX0 P w K mg base N nm (defScope st) f cdv A outer s H E).nox (defBody st) (tS K cls (exec (calls T k) d.body)) :=
          compSs_ok (X := (cxOf CX0 P w K mg base N nm (defScope st) f cdv A outer s H E).nox) (fun s c h => compS_ok g (fun _ => rfl) 40 h) h9
        refine ⟨_, body, ρ, startE d ds, h, start_ok h8 r, hr, ?_⟩
        cases q : exec (calls T k) d.body (startE d ds) h with
        | ex _ _ => rw [q] at hf; exact hf
        | no => rw [q] at hf; exact hf
        | ok fl h1 =>
          rw [q, Rs.bind_ok] at hf
          cases fl with
          | nx e1 => exact fun σ' H' ρ' x kk _ hr' => hf .non H' ρ' x kk RD.non hr'
          | rt d => exact hf
          | bk e1 => exact hf.elim
          | ct e1 => exact hf.elim
      · exact hf.elim
/-- the law's own call -/
theorem law_ok {n : Nat} {k li : Nat} (hlaw : ∀ ns : List Int, ns.length ≤ n → ∃ h, calls T k li [.fro (ns.map .int)] [] = .ok (.bl true) h) :
    ∀ (H : Hp) (a : Addr) (ns : List Int), ns.length ≤ n → Only H → SqL K H a (ns.map V.int) → spD K cls (calls T k) li [.ref a] H (fun v _ => v = .bl true) fun _ _ _ => False := by
  intro H a ns hn hO hS
  obtain ⟨h, e⟩ := hlaw ns hn
  have rd : RDs K [] H (ns.map D.int) (ns.map V.int) := by
    clear e hS hn
    induction ns with
    | nil => exact RDs.nil
    | cons n ns ih => exact RDs.cons RD.int ih
  have sq : SqF K H a (ns.map V.int) := by
    rcases hS with (h1 | h1) | h1
    · rcases hO a with z | ⟨o, xs, z⟩
      · rw [z] at h1; cases h1
      · rw [z] at h1; cases h1
    · exact .inl h1
    · exact .inr h1
  refine ⟨[], [.fro (ns.map D.int)], [], RDs.cons ?_ RDs.nil, ⟨rfl, List.nodup_nil, fun n o a h _ => by simp at h⟩, ?_⟩
  · rw [RD]; exact ⟨a, _, rfl, sq, rd⟩
  · rw [e]
    exact fun v H' ρ' _ _ rv _ => rv.bl_e
end

/-! ### for the end of a law -/
theorem gK_len {α : Type} {n m : Nat} {p : List Nat} {us ws : List α} {l : Nat} (hl : l ≠ 0) (h : (gK n m p us ws).length = l) : us.length = n ∧ ws.length = m := by
  unfold gK at h
  split at h
  · assumption
  · exact absurd h.symm hl
theorem kb_of {K : PySem.W.Frag} {fd : FuncData} {ps ks : List Str} {n : Nat} {p : List Nat} (h : ∀ us ws : List Value, us.length = n → ws.length = ks.length → ∀ s : Shared, BindsTo s fd ⟨us, ks.zip ws⟩ (ps.zip (gK n ks.length p us ws))) (hp : ps.length ≠ 0) :
    KBinds K fd ps ks (gK n ks.length p) (gK n ks.length p) := by
  refine ⟨fun s us ws _ hl => ?_, fun {vs us zs ws} r q => ?_⟩
  · obtain ⟨h1, h2⟩ := gK_len hp hl
    exact h us ws h1 h2 s
  · unfold gK
    rw [r.length, q.length]
    split
    · have rq := r.append q
      clear h
      induction p with
      | nil => exact .nil
      | cons i p ih =>
        rw [List.filterMap_cons, List.filterMap_cons]
        cases e : (vs ++ zs)[i]? with
        | none => rw [rq.none_of e]; exact ih
        | some x =>
          obtain ⟨u, h1, h2⟩ := rq.get e
          rw [h1]
          exact .cons h2 ih
    · exact .nil
theorem relV_of {u : Value} {x : V} (h : absV u = some x) : RelV x u := by
  cases u <;> simp [absV] at h <;> subst h <;> first | rfl | exact ⟨_, rfl⟩
theorem vals_of : ∀ {us : List Value} {xs : List V}, us.map absV = xs.map some → Vals xs us
  | [], [], _ => .nil
  | [], _ :: _, h => by simp at h
  | _ :: _, [], h => by simp at h
  | u :: us, x :: xs, h => by
    simp only [List.map_cons, List.cons.injEq] at h
    exact .cons (relV_of h.1) (vals_of h.2)
def toV : D → Option V
  | .non => some .non | .bl b => some (.bl b) | .int i => some (.int i) | .str s => some (.str (S s))
  | _ => none
theorem toV_ok {K : PySem.W.Frag} {ρ : List Addr} {H : Hp} {d : D} {x : V} (h : toV d = some x) : RD K ρ H d x := by
  cases d <;> simp [toV] at h <;> subst h
  · exact RD.non
  · exact RD.bl
  · exact RD.int
  · exact RD.str
theorem toVs_ok {K : PySem.W.Frag} {ρ : List Addr} {H : Hp} : ∀ {ds : List D} {xs : List V}, ds.map toV = xs.map some → RDs K ρ H ds xs
  | [], [], _ => RDs.nil
  | [], _ :: _, h => by simp at h
  | _ :: _, [], h => by simp at h
  | d :: ds, x :: xs, h => by
    simp only [List.map_cons, List.cons.injEq] at h
    exact RDs.cons (toV_ok h.1) (toVs_ok h.2)
theorem cst_one {K : PySem.W.Frag} {mg : Str → Option Value} {x : Str} {a : Addr} {dd : Option Addr} {its : Array Value} {n : Nat} {sl : Array (Option Value)} {ds : List D} {xs : List V} (hm : mg x = some (.ref a)) (hl : K.lookup a = some ⟨.type "tuple", dd, .seq its n, sl⟩)
    (h1 : its.toList.map absV = xs.map some) (h2 : ds.map toV = xs.map some) (hs : its.size ≤ sizeLine) : ∃ u v, mg x = some u ∧ RelV v u ∧ ∀ ρ H, RD K ρ H (.tup ds) v :=
  ⟨_, .ref a, hm, rfl, fun ρ H => RD.tup (.inr ⟨_, its, n, hl, rfl, rfl, hs, vals_of h1⟩) (toVs_ok h2)⟩
theorem cst_of {α : Type} {l : List (Str × α)} {P : Str → α → Prop} (h : ∀ x d, (x, d) ∈ l → P x d) {x : Str} {d : α} (e : l.lookup x = some d) : P x d := h x d (PySem.mem_of_lookup e)
/-- the law's def among the others -/
theorem fns_at {P : Program} {w : World} {K : PySem.W.Frag} {mg : Str → Option Value} {base : Heap} {cls : Nat → Option Addr} {T : List Def} {Γ : Names} (defs : ∀ i nm ps pl, Γ.defs[i]? = some (nm, ps, pl) → DefFact K mg T Γ i nm ps pl) (bl : ∀ x ∈ bltNames, mg x = none)
    (cst : ∀ x d, Γ.consts.lookup x = some d → ∃ u v, mg x = some u ∧ RelV v u ∧ ∀ ρ H, RD K ρ H d v) (k i : Nat) {nm : Str} {ps : List Str} {pl : Bool} (h : Γ.defs[i]? = some (nm, ps, pl)) {f : Addr} {st : Stmt} {fd : FuncData} (F : Fun K nm nm st f fd) (hm : mg nm = some (.ref f)) :
    FnOk P w K mg base CX0 k f fd ps (spD K cls (calls T k) i) := by
  obtain ⟨f', fd', h1, ⟨st', F'⟩, _, h3, _⟩ := fns_ok (P := P) (w := w) (base := base) (cls := cls) defs bl cst k i nm ps pl h
  rw [hm] at h1
  cases h1
  obtain ⟨_, _, _, _, _, _, _, _, _, _, l1, _⟩ := F.ex
  obtain ⟨_, _, _, _, _, _, _, _, _, _, l2, _⟩ := F'.ex
  rw [l1] at l2
  injection l2 with e
  injection e with _ _ e _
  injection e with e
  subst e
  exact h3
end Rf

namespace Rf
open PySem PySem.Spec PyProof.Rows L2

/-! ### rewriting rules of the interpreter -/
theorem ofO_s {α : Type} {a : α} {h : AH} : ofO (some a) h = .ok a h := rfl
theorem at0 {α : Type} {a : α} {l : List α} : atD (a :: l) 0 = some a := by
  simp only [atD, ixD, List.length_cons]
  rw [if_pos (by omega), if_pos (by omega)]
  rfl
theorem at1 {α : Type} {a b : α} {l : List α} : atD (a :: b :: l) 1 = some b := by
  simp only [atD, ixD, List.length_cons]
  rw [if_pos (by omega), if_pos (by omega)]
  rfl
theorem at2 {α : Type} {a b c : α} {l : List α} : atD (a :: b :: c :: l) 2 = some c := by
  simp only [atD, ixD, List.length_cons]
  rw [if_pos (by omega), if_pos (by omega)]
  rfl
theorem at3 {α : Type} {a b c d : α} {l : List α} : atD (a :: b :: c :: d :: l) 3 = some d := by
  simp only [atD, ixD, List.length_cons]
  rw [if_pos (by omega), if_pos (by omega)]
  rfl
theorem at_nat {α : Type} {l : List α} {k : Int} (h0 : 0 ≤ k) : atD l k = l[k.toNat]? := by
  simp only [atD, ixD]
  rw [if_pos h0]
  by_cases h : k < l.length
  · rw [if_pos h]; rfl
  · rw [if_neg h, List.getElem?_eq_none (by omega)]; rfl
theorem at_last {α : Type} {l : List α} : atD l (-1) = l.getLast? := by
  simp only [atD, ixD]
  rw [if_neg (by omega)]
  cases l with
  | nil => rfl
  | cons x l =>
    rw [if_pos (by simp only [List.length_cons]; omega), List.getLast?_eq_getElem?]
    have : ((-1 : Int) + ((x :: l).length : Nat)).toNat = (x :: l).length - 1 := by simp only [List.length_cons]; omega
    rw [this]
    rfl
theorem idx_tup {ds : List D} {k : Int} {h : AH} : idxD (.tup ds) (.int k) h = ofO (atD ds k) h := rfl
theorem idx_fro {ds : List D} {k : Int} {h : AH} : idxD (.fro ds) (.int k) h = ofO (atD ds k) h := rfl
theorem idx_lst {n : Nat} {ds : List D} {k : Int} {h : AH} (e : h[n]? = some (.lst ds)) : idxD (.ref n) (.int k) h = ofO (atD ds k) h := by
  simp only [idxD, e]
theorem idx_mlst {n : Nat} {ds : List D} {k : Int} {h : AH} (e : h[n]? = some (.lst ds)) : idxM (.ref n) (.int k) h = ofO (atD ds k) h := by
  simp only [idxM, idxD, e]
theorem idx_dic {n : Nat} {kvs : List (DK × D)} {s : Sg} {h : AH} (e : h[n]? = some (.dic kvs)) : idxD (.ref n) (.str s) h = ofO (lookK kvs (.inr s)) h := by
  simp only [idxD, e, keyD]
theorem getL_of {n : Nat} {ds : List D} {h : AH} (e : h[n]? = some (.lst ds)) : getL h n = some ds := by
  simp only [getL, e]
theorem ce_int {i j : Int} {h : AH} : cmpD .eq (.int i) (.int j) h = .ok (.bl (decide (i = j))) h := rfl
theorem ce_str {i j : Sg} {h : AH} : cmpD .eq (.str i) (.str j) h = .ok (.bl (decide (i = j))) h := rfl
theorem ce_bl {i j : Bool} {h : AH} : cmpD .eq (.bl i) (.bl j) h = .ok (.bl (decide (i = j))) h := rfl
theorem ce_is {i : Int} {j : Sg} {h : AH} : cmpD .eq (.int i) (.str j) h = .ok (.bl false) h := rfl
theorem ce_si {i : Int} {j : Sg} {h : AH} : cmpD .eq (.str j) (.int i) h = .ok (.bl false) h := rfl
theorem cn_int {i j : Int} {h : AH} : cmpD .ne (.int i) (.int j) h = .ok (.bl (!decide (i = j))) h := rfl
theorem cn_str {i j : Sg} {h : AH} : cmpD .ne (.str i) (.str j) h = .ok (.bl (!decide (i = j))) h := rfl
theorem cn_bl {i j : Bool} {h : AH} : cmpD .ne (.bl i) (.bl j) h = .ok (.bl (!decide (i = j))) h := rfl
theorem cn_is {i : Int} {j : Sg} {h : AH} : cmpD .ne (.int i) (.str j) h = .ok (.bl true) h := rfl
theorem cn_si {i : Int} {j : Sg} {h : AH} : cmpD .ne (.str j) (.int i) h = .ok (.bl true) h := rfl
theorem cl_int {i j : Int} {h : AH} : cmpD .lt (.int i) (.int j) h = .ok (.bl (decide (i < j))) h := rfl
theorem cle_int {i j : Int} {h : AH} : cmpD .le (.int i) (.int j) h = .ok (.bl (decide (i ≤ j))) h := rfl
theorem cg_int {i j : Int} {h : AH} : cmpD .gt (.int i) (.int j) h = .ok (.bl (decide (j < i))) h := rfl
theorem cge_int {i j : Int} {h : AH} : cmpD .ge (.int i) (.int j) h = .ok (.bl (decide (j ≤ i))) h := rfl
theorem tr_bl {b : Bool} {h : AH} : truD h (.bl b) = some b := rfl
theorem b_add {i j : Int} {h : AH} : binD .add (.int i) (.int j) h = .ok (.int (i + j)) h := rfl
theorem b_sub {i j : Int} {h : AH} : binD .sub (.int i) (.int j) h = .ok (.int (i - j)) h := rfl
theorem b_mul {i j : Int} {h : AH} (hj : j.natAbs ≤ 18446744073709551615) : binD .mul (.int i) (.int j) h = .ok (.int (i * j)) h := by
  simp only [binD]
  rw [if_pos (.inr hj)]
theorem b_mod {i j : Int} {h : AH} (hj : j ≠ 0) : binD .mod (.int i) (.int j) h = .ok (.int (i.fmod j)) h := by
  simp only [binD]
  rw [if_pos hj]
theorem b_fdv {i j : Int} {h : AH} (hj : j ≠ 0 ∧ j.natAbs < 1073741824) : binD .fdv (.int i) (.int j) h = .ok (.int (i.fdiv j)) h := by
  simp only [binD]
  rw [if_pos hj]
theorem bt_int {i : Int} {h : AH} : bltD .int [.int i] h = .ok (.int i) h := rfl
theorem bt_abs {i : Int} {h : AH} : bltD .abs [.int i] h = .ok (.int (if i < 0 then -i else i)) h := rfl
theorem bt_len_lst {n : Nat} {ds : List D} {h : AH} (e : h[n]? = some (.lst ds)) : bltD .len [.ref n] h = .ok (.int ds.length) h := by
  simp only [bltD, e]
theorem bt_len_tup {ds : List D} {h : AH} : bltD .len [.tup ds] h = .ok (.int ds.length) h := rfl
theorem bt_tuple_lst {n : Nat} {ds : List D} {h : AH} (e : h[n]? = some (.lst ds)) : bltD .tuple [.ref n] h = .ok (.tup ds) h := by
  simp only [bltD, getL, e]
theorem bt_list_fro {ds : List D} {h : AH} : bltD .list [.fro ds] h = .ok (.ref h.length) (h ++ [.lst ds]) := rfl
theorem sxl_lst {n j : Nat} {ds : List D} {k : Int} {v : D} {h : AH} (e : h[n]? = some (.lst ds)) (hj : ixD ds.length k = some j) : sxl h (.ref n) (.int k) v = .ok () (h.set n (.lst (ds.set j v))) := by
  simp only [sxl, e, hj]
theorem ag_add {i j : Int} {h : AH} : augD .add (.int i) (.int j) h = .ok (.int (i + j)) h := rfl
theorem set_at {h : AH} {n : Nat} {o : Ob} (hn : n < h.length) : (h.set n o)[n]? = some o := by
  rw [List.getElem?_set_self hn]
theorem set_out {h : AH} {n m : Nat} {o : Ob} (hn : m ≠ n) : (h.set n o)[m]? = h[m]? := List.getElem?_set_ne (Ne.symm hn)
theorem al_eq {h : AH} {o : Ob} : alloc h o = .ok (.ref h.length) (h ++ [o]) := rfl
theorem app_old {h : AH} {o : Ob} {n : Nat} {x : Ob} (e : h[n]? = some x) : (h ++ [o])[n]? = some x := by
  rw [List.getElem?_append_left (List.getElem?_eq_some_iff.mp e).1]
  exact e
theorem app_new {h : AH} {o : Ob} : (h ++ [o])[h.length]? = some o := by
  rw [List.getElem?_append_right (Nat.le_refl _)]
  simp
/-- a call of a def -/
theorem calls_ok {T : List Def} {k i : Nat} {d : Def} (hT : T[i]? = some d) {as : List D} {h : AH} (hl : as.length = d.params) : calls T (k + 1) i as h = (exec (calls T k) d.body (startE d as) h).bind retF := by
  rw [calls, hT]
  show runDef (calls T k) d as h = _
  rw [runDef, if_pos hl]
end Rf

namespace Rf
open PySem PySem.Spec PyProof.Rows L2

def c_next2 : CS := (.seq (.ife (.cmp .gt (.idx (.var 0) (.cst (.int 2))) (.cst (.int 0)))
    (.seq (.set 3 (.bin .mod (.blt .int (.ac (.idx (.var 0) (.cst (.int 2))) .an)) (.var 1)))
    (.seq (.setIx (.var 0) (.cst (.int 2)) (.bin .fdv (.idx (.var 0) (.cst (.int 2))) (.var 1)))
    (.seq (.ret (.var 3))
    .skip)))
    .skip)
  (.seq (.setIx (.var 0) (.cst (.int 3)) (.bin .mod (.blt .int (.ac (.bin .add (.bin .mul (.idx (.var 0) (.cst (.int 3))) (.cst (.int 69621))) (.cst (.int 12345))) .an)) (.cst (.int 2147483647))))
  (.seq (.ret (.bin .mod (.blt .int (.ac (.bin .fdv (.idx (.var 0) (.cst (.int 3))) (.cst (.int 7))) .an)) (.var 1)))
  .skip)))
def c_next1 : CS := (.ife (.and (.cmp .eq (.idx (.var 0) (.cst (.int 2))) (.cst (.int 0))) (.cmp .lt (.idx (.var 0) (.cst (.int 1))) (.blt .len (.ac (.idx (.var 0) (.cst (.int 0))) .an))))
    (.seq (.set 2 (.blt .abs (.ac (.blt .int (.ac (.idx (.idx (.var 0) (.cst (.int 0))) (.idx (.var 0) (.cst (.int 1)))) .an)) .an)))
    (.seq (.augIx .add (.var 0) (.cst (.int 1)) (.cst (.int 1)))
    (.seq (.ife (.cmp .ge (.var 2) (.bin .pow (.cst (.int 10)) (.cst (.int 18))))
      (.seq (.setIx (.var 0) (.cst (.int 2)) (.var 2))
      .skip)
      (.seq (.setIx (.var 0) (.cst (.int 3)) (.bin .mod (.blt .int (.ac (.bin .add (.bin .add (.bin .mul (.idx (.var 0) (.cst (.int 3))) (.cst (.int 48271))) (.bin .mod (.blt .int (.ac (.var 2) .an)) (.cst (.int 2147483647)))) (.cst (.int 7))) .an)) (.cst (.int 2147483647))))
      .skip))
    .skip)))
    .skip)
def c_next : CS := .seq c_next1 c_next2
def d_next : Def := ⟨2, 4, c_next⟩

/-- the state of the draws: number s, over the list number l -/
structure Dr (s l : Nat) (h : AH) : Prop where
  ne : s ≠ l
  st : ∃ (ns : List Int) (a b c : Int), h[s]? = some (.lst [.ref l, .int a, .int b, .int c]) ∧ h[l]? = some (.lst (ns.map .int)) ∧ 0 ≤ a ∧ 0 ≤ b ∧ 0 ≤ c ∧ c < 2147483647
theorem ix0 {n : Nat} : ixD (n + 1) 0 = some 0 := by unfold ixD; rw [if_pos (by omega), if_pos (by omega)]; rfl
theorem ix1 {n : Nat} : ixD (n + 2) 1 = some 1 := by unfold ixD; rw [if_pos (by omega), if_pos (by omega)]; rfl
theorem ix2 {n : Nat} : ixD (n + 3) 2 = some 2 := by unfold ixD; rw [if_pos (by omega), if_pos (by omega)]; rfl
theorem ix3 {n : Nat} : ixD (n + 4) 3 = some 3 := by unfold ixD; rw [if_pos (by omega), if_pos (by omega)]; rfl
theorem p18 {h : AH} : binD .pow (.int 10) (.int 18) h = .ok (.int 1000000000000000000) h := rfl
theorem fmod_bd {i m : Int} (h : 0 < m) : 0 ≤ i.fmod m ∧ i.fmod m < m := by
  rw [Int.fmod_eq_emod_of_nonneg _ (by omega)]
  exact ⟨Int.emod_nonneg _ (by omega), Int.emod_lt_of_pos _ h⟩
theorem next2 {cal : Cal} {s l : Nat} {m : Int} (h1 : 1 ≤ m) (h2 : m < 1073741824) (x y : Option D) {h : AH} (dr : Dr s l h) :
    ∃ v h', exec cal c_next2 [some (.ref s), some (.int m), x, y] h = .ok (.rt (.int v)) h' ∧ 0 ≤ v ∧ v < m ∧ Dr s l h' ∧ h'.length = h.length ∧ ∀ n, n ≠ s → h'[n]? = h[n]? := by
  obtain ⟨ne, ns, a, b, c, e1, e2, ha, hb, hc, hc2⟩ := dr
  have hs : s < h.length := (List.getElem?_eq_some_iff.mp e1).1
  have hm : m ≠ 0 := by omega
  have hm2 : m ≠ 0 ∧ m.natAbs < 1073741824 := by omega
  by_cases hb0 : 0 < b
  · refine ⟨b.fmod m, h.set s (.lst [.ref l, .int a, .int (b.fdiv m), .int c]), ?_, (fmod_bd (by omega)).1, (fmod_bd (by omega)).2, ⟨ne, ns, a, b.fdiv m, c, ?_, ?_, ha, Int.fdiv_nonneg hb (by omega), hc, hc2⟩, ?_, fun n hn => set_out hn⟩
    · simp only [c_next2, exec, evT, ev, evs, Rs.bind_ok, List.getElem?_cons_zero, List.getElem?_cons_succ, idx_lst e1, at2, ofO_s, cg_int, tr_bl, decide_eq_true_eq, if_pos hb0, bt_int, b_mod hm, List.set_cons_succ, List.set_cons_zero, b_fdv hm2, sxl_lst e1 ix2, List.length_cons]
    · exact set_at hs
    · rw [set_out (Ne.symm ne)]; exact e2
    · simp
  · have hz : ∀ z : Int, (2147483647 : Int) ≠ 0 ∧ 0 ≤ z.fmod 2147483647 ∧ z.fmod 2147483647 < 2147483647 := fun z => ⟨by decide, fmod_bd (by decide)⟩
    refine ⟨(((c * 69621 + 12345).fmod 2147483647).fdiv 7).fmod m, h.set s (.lst [.ref l, .int a, .int b, .int ((c * 69621 + 12345).fmod 2147483647)]), ?_, (fmod_bd (by omega)).1, (fmod_bd (by omega)).2, ⟨ne, ns, a, b, _, set_at hs, ?_, ha, hb, (hz _).2.1, (hz _).2.2⟩, ?_, fun n hn => set_out hn⟩
    · simp only [c_next2, exec, evT, ev, evs, Rs.bind_ok, List.getElem?_cons_zero, List.getElem?_cons_succ, idx_lst e1, at2, at3, ofO_s, cg_int, tr_bl, decide_eq_true_eq, if_neg hb0, bt_int, b_mul (show (69621 : Int).natAbs ≤ 18446744073709551615 by decide), b_add, b_mod (show (2147483647 : Int) ≠ 0 by decide), List.set_cons_succ, List.set_cons_zero, sxl_lst e1 ix3, List.length_cons, idx_lst (set_at hs), b_fdv (show (7 : Int) ≠ 0 ∧ (7 : Int).natAbs < 1073741824 by decide), b_mod hm]
    · rw [set_out (Ne.symm ne)]; exact e2
    · simp

theorem next1 {cal : Cal} {s l : Nat} {m : Int} {h : AH} (dr : Dr s l h) :
    ∃ x h', exec cal c_next1 [some (.ref s), some (.int m), none, none] h = .ok (.nx [some (.ref s), some (.int m), x, none]) h' ∧ Dr s l h' ∧ h'.length = h.length ∧ ∀ n, n ≠ s → h'[n]? = h[n]? := by
  have dr0 := dr
  obtain ⟨ne, ns, a, b, c, e1, e2, ha, hb, hc, hc2⟩ := dr
  have hs : s < h.length := (List.getElem?_eq_some_iff.mp e1).1
  by_cases hb0 : b = 0
  · by_cases hal : a < (ns.length : Int)
    · have han : a.toNat < ns.length := by omega
      have hat : atD (ns.map D.int) a = some (.int ns[a.toNat]) := by
        rw [at_nat ha, List.getElem?_map, List.getElem?_eq_getElem han]; rfl
      generalize ns[a.toNat] = z at hat
      have hw : (if z < 0 then -z else z) ≥ 0 := by split <;> omega
      generalize hwz : (if z < 0 then -z else z) = w at hw
      have el : (h.set s (.lst [.ref l, .int (a + 1), .int b, .int c]))[s]? = some (.lst [.ref l, .int (a + 1), .int b, .int c]) := set_at hs
      by_cases hbig : (1000000000000000000 : Int) ≤ w
      · refine ⟨some (.int w), (h.set s (.lst [.ref l, .int (a + 1), .int b, .int c])).set s (.lst [.ref l, .int (a + 1), .int w, .int c]), ?_, ⟨ne, ns, a + 1, w, c, set_at (by simpa using hs), ?_, by omega, hw, hc, hc2⟩, by simp, fun n hn => by rw [set_out hn, set_out hn]⟩
        · simp only [c_next1, exec, evT, ev, evs, Rs.bind_ok, List.getElem?_cons_zero, List.getElem?_cons_succ, idx_lst e1, idx_mlst e1, idx_lst e2, bt_len_lst e2, List.length_map, at0, at1, at2, ofO_s, ce_int, cl_int, tr_bl, decide_eq_true_eq, if_pos hb0, decide_eq_true hb0, decide_eq_true hal, if_pos hal, hat, bt_int, bt_abs, hwz, List.set_cons_succ, List.set_cons_zero, ag_add, sxl_lst e1 ix1, List.length_cons, cge_int, p18, if_pos hbig, sxl_lst el ix2, if_true]
        · rw [set_out (Ne.symm ne), set_out (Ne.symm ne)]; exact e2
      · have hz : ∀ z : Int, 0 ≤ z.fmod 2147483647 ∧ z.fmod 2147483647 < 2147483647 := fun z => fmod_bd (by decide)
        refine ⟨some (.int w), (h.set s (.lst [.ref l, .int (a + 1), .int b, .int c])).set s (.lst [.ref l, .int (a + 1), .int b, .int ((c * 48271 + w.fmod 2147483647 + 7).fmod 2147483647)]), ?_, ⟨ne, ns, a + 1, b, _, set_at (by simpa using hs), ?_, by omega, hb, (hz _).1, (hz _).2⟩, by simp, fun n hn => by rw [set_out hn, set_out hn]⟩
        · simp only [c_next1, exec, evT, ev, evs, Rs.bind_ok, List.getElem?_cons_zero, List.getElem?_cons_succ, idx_lst e1, idx_mlst e1, idx_lst e2, bt_len_lst e2, List.length_map, at0, at1, at2, at3, ofO_s, ce_int, cl_int, tr_bl, decide_eq_true_eq, if_pos hb0, decide_eq_true hb0, decide_eq_true hal, if_pos hal, hat, bt_int, bt_abs, hwz, List.set_cons_succ, List.set_cons_zero, ag_add, sxl_lst e1 ix1, List.length_cons, cge_int, p18, if_neg hbig, idx_lst el, b_mul (show (48271 : Int).natAbs ≤ 18446744073709551615 by decide), b_add, b_mod (show (2147483647 : Int) ≠ 0 by decide), sxl_lst el ix3, if_true]
        · rw [set_out (Ne.symm ne), set_out (Ne.symm ne)]; exact e2
    · refine ⟨none, h, ?_, dr0, rfl, fun _ _ => rfl⟩
      simp only [c_next1, exec, evT, ev, evs, Rs.bind_ok, List.getElem?_cons_zero, List.getElem?_cons_succ, idx_lst e1, bt_len_lst e2, List.length_map, at0, at1, at2, ofO_s, ce_int, cl_int, tr_bl, decide_eq_true hb0, decide_eq_false hal, Bool.false_eq_true, if_false]
  · refine ⟨none, h, ?_, dr0, rfl, fun _ _ => rfl⟩
    simp only [c_next1, exec, evT, ev, evs, Rs.bind_ok, List.getElem?_cons_zero, List.getElem?_cons_succ, idx_lst e1, at2, ofO_s, ce_int, tr_bl, decide_eq_false hb0, Bool.false_eq_true, if_false]
/-- a draw -/
theorem next_ok {T : List Def} {i : Nat} (hT : T[i]? = some d_next) (k : Nat) {h : AH} {s l : Nat} (dr : Dr s l h) {m : Int} (h1 : 1 ≤ m) (h2 : m < 1073741824) :
    ∃ v h', calls T (k + 1) i [.ref s, .int m] h = .ok (.int v) h' ∧ 0 ≤ v ∧ v < m ∧ Dr s l h' ∧ h'.length = h.length ∧ ∀ n, n ≠ s → h'[n]? = h[n]? := by
  obtain ⟨x, h3, e3, dr3, l3, f3⟩ := next1 (cal := calls T k) (m := m) dr
  obtain ⟨v, h4, e4, v1, v2, dr4, l4, f4⟩ := next2 (cal := calls T k) h1 h2 x none dr3
  refine ⟨v, h4, ?_, v1, v2, dr4, l4.trans l3, fun n hn => (f4 n hn).trans (f3 n hn)⟩
  rw [calls_ok hT rfl]
  show (exec (calls T k) c_next [some (.ref s), some (.int m), none, none] h).bind retF = _
  simp only [c_next, exec, e3, Rs.bind_ok, e4, retF]
end Rf

namespace Rf
open PySem PySem.Spec PyProof.Rows L2

/-! ### equality of plain data -/
mutual
def beqD : D → D → Bool
  | .non, .non => true
  | .bl a, .bl b => a == b
  | .int i, .int j => decide (i = j)
  | .str s, .str t => decide (s = t)
  | .tup as, .tup bs => beqs as bs
  | .fro as, .fro bs => beqs as bs
  | .ref m, .ref n => m == n
  | _, _ => false
def beqs : List D → List D → Bool
  | [], [] => true
  | a :: as, b :: bs => beqD a b && beqs as bs
  | _, _ => false
end
mutual
theorem beqD_eq : ∀ {a b : D}, beqD a b = true → a = b
  | .non, .non, _ => rfl
  | .bl a, .bl b, h => by rw [beqD] at h; rw [eq_of_beq h]
  | .int i, .int j, h => by rw [beqD] at h; rw [of_decide_eq_true h]
  | .str s, .str t, h => by rw [beqD] at h; rw [of_decide_eq_true h]
  | .tup as, .tup bs, h => by rw [beqD] at h; rw [beqs_eq h]
  | .fro as, .fro bs, h => by rw [beqD] at h; rw [beqs_eq h]
  | .ref m, .ref n, h => by rw [beqD] at h; rw [eq_of_beq h]
  | .non, .bl _, h | .non, .int _, h | .non, .str _, h | .non, .tup _, h | .non, .fro _, h | .non, .ref _, h => by simp [beqD] at h
  | .bl _, .non, h | .bl _, .int _, h | .bl _, .str _, h | .bl _, .tup _, h | .bl _, .fro _, h | .bl _, .ref _, h => by simp [beqD] at h
  | .int _, .non, h | .int _, .bl _, h | .int _, .str _, h | .int _, .tup _, h | .int _, .fro _, h | .int _, .ref _, h => by simp [beqD] at h
  | .str _, .non, h | .str _, .bl _, h | .str _, .int _, h | .str _, .tup _, h | .str _, .fro _, h | .str _, .ref _, h => by simp [beqD] at h
  | .tup _, .non, h | .tup _, .bl _, h | .tup _, .int _, h | .tup _, .str _, h | .tup _, .fro _, h | .tup _, .ref _, h => by simp [beqD] at h
  | .fro _, .non, h | .fro _, .bl _, h | .fro _, .int _, h | .fro _, .str _, h | .fro _, .tup _, h | .fro _, .ref _, h => by simp [beqD] at h
  | .ref _, .non, h | .ref _, .bl _, h | .ref _, .int _, h | .ref _, .str _, h | .ref _, .tup _, h | .ref _, .fro _, h => by simp [beqD] at h
theorem beqs_eq : ∀ {a b : List D}, beqs a b = true → a = b
  | [], [], _ => rfl
  | a :: as, b :: bs, h => by
    rw [beqs, Bool.and_eq_true] at h
    rw [beqD_eq h.1, beqs_eq h.2]
  | [], _ :: _, h => by simp [beqs] at h
  | _ :: _, [], h => by simp [beqs] at h
end
mutual
theorem beqD_refl : ∀ a : D, beqD a a = true
  | .non => by simp [beqD]
  | .bl a => by simp [beqD]
  | .int i => by simp [beqD]
  | .str s => by simp [beqD]
  | .tup as => by rw [beqD]; exact beqs_refl as
  | .fro as => by rw [beqD]; exact beqs_refl as
  | .ref m => by simp [beqD]
theorem beqs_refl : ∀ a : List D, beqs a a = true
  | [] => by simp [beqs]
  | a :: as => by rw [beqs, beqD_refl a, beqs_refl as]; rfl
end
instance : DecidableEq D := fun a b => if h : beqD a b = true then isTrue (beqD_eq h) else isFalse fun e => h (by rw [e]; exact beqD_refl b)
theorem beqD_dec {a b : D} : beqD a b = decide (a = b) := by
  cases h : beqD a b with
  | true => rw [beqD_eq h]; simp
  | false => exact (decide_eq_false fun e => by rw [e, beqD_refl] at h; cases h).symm
theorem beqs_dec {a b : List D} : beqs a b = decide (a = b) := by
  cases h : beqs a b with
  | true => rw [beqs_eq h]; simp
  | false => exact (decide_eq_false fun e => by rw [e, beqs_refl] at h; cases h).symm

/-! plain data: no bools, no lists; n levels deep at most -/
mutual
def okD : D → Bool
  | .non => true
  | .int _ => true
  | .str s => PyData.strOk (S s)
  | .tup ds => okDs ds
  | .bl _ => false
  | .fro _ => false
  | .ref _ => false
def okDs : List D → Bool
  | [] => true
  | d :: ds => okD d && okDs ds
end
mutual
def depD : D → Nat
  | .tup ds => depDs ds + 1
  | _ => 0
def depDs : List D → Nat
  | [] => 0
  | d :: ds => max (depD d) (depDs ds)
end
mutual
def py : D → PyData
  | .non => .none
  | .bl b => .bool b
  | .int i => .int i
  | .str s => .str (S s)
  | .tup ds => .tuple (pys ds)
  | .fro ds => .list (pys ds)
  | .ref _ => .none
def pys : List D → List PyData
  | [] => []
  | d :: ds => py d :: pys ds
end
mutual
theorem toPy_py {h : AH} : ∀ {n : Nat} {d : D}, okD d = true → depD d ≤ n → toPy h (n + 1) d = some (py d)
  | n, .non, _, _ => by rw [toPy, py]
  | n, .int i, _, _ => by rw [toPy, py]
  | n, .str s, _, _ => by rw [toPy, py]
  | n, .bl b, h, _ => by simp [okD] at h
  | n, .fro ds, h, _ => by simp [okD] at h
  | n, .ref m, h, _ => by simp [okD] at h
  | 0, .tup ds, _, h => by rw [depD] at h; omega
  | n + 1, .tup ds, h, hd => by
    rw [okD] at h
    rw [depD] at hd
    rw [toPy, toPys_py h (by omega), py]
    rfl
theorem toPys_py {h : AH} : ∀ {n : Nat} {ds : List D}, okDs ds = true → depDs ds ≤ n → mapO (toPy h (n + 1)) ds = some (pys ds)
  | n, [], _, _ => by rw [mapO, pys]
  | n, d :: ds, h, hd => by
    rw [okDs, Bool.and_eq_true] at h
    rw [depDs] at hd
    rw [mapO, toPy_py h.1 (by omega), toPys_py h.2 (by omega), pys]
end
mutual
theorem eqv_py : ∀ {a b : D}, okD a = true → okD b = true → PyData.eqv (py a) (py b) = beqD a b
  | .non, .non, _, _ => by simp only [py, PyData.eqv, beqD]
  | .int i, .int j, _, _ => by simp only [py, PyData.eqv, beqD]; exact Bool.beq_eq_decide_eq i j
  | .str s, .str t, _, _ => by
    simp only [py, PyData.eqv, beqD]
    rw [S_beq]
    exact Bool.beq_eq_decide_eq s t
  | .tup as, .tup bs, h, g => by
    rw [okD] at h g
    simp only [py, PyData.eqv, beqD]
    exact eqvs_py h g
  | .bl _, _, h, _ | .fro _, _, h, _ | .ref _, _, h, _ => by simp [okD] at h
  | _, .bl _, _, h | _, .fro _, _, h | _, .ref _, _, h => by simp [okD] at h
  | .non, .int _, _, _ | .non, .str _, _, _ | .non, .tup _, _, _ => by simp only [py, PyData.eqv, beqD]
  | .int _, .non, _, _ | .int _, .str _, _, _ | .int _, .tup _, _, _ => by simp only [py, PyData.eqv, beqD]
  | .str _, .non, _, _ | .str _, .int _, _, _ | .str _, .tup _, _, _ => by simp only [py, PyData.eqv, beqD]
  | .tup _, .non, _, _ | .tup _, .int _, _, _ | .tup _, .str _, _, _ => by simp only [py, PyData.eqv, beqD]
theorem eqvs_py : ∀ {a b : List D}, okDs a = true → okDs b = true → PyData.eqvAll (pys a) (pys b) = beqs a b
  | [], [], _, _ => by simp only [pys, PyData.eqvAll, beqs]
  | a :: as, b :: bs, h, g => by
    rw [okDs, Bool.and_eq_true] at h g
    simp only [pys, PyData.eqvAll, beqs]
    rw [eqv_py h.1 g.1, eqvs_py h.2 g.2]
  | [], _ :: _, _, _ => by simp only [pys, PyData.eqvAll, beqs]
  | _ :: _, [], _, _ => by simp only [pys, PyData.eqvAll, beqs]
end
mutual
theorem lay_py : ∀ {a : D}, okD a = true → (py a).canLay0 = true
  | .non, _ => by simp only [py, PyData.canLay0]
  | .int i, _ => by simp only [py, PyData.canLay0]
  | .str s, h => by rw [okD] at h; simp only [py, PyData.canLay0]; exact h
  | .tup as, h => by rw [okD] at h; simp only [py, PyData.canLay0]; exact lays_py h
  | .bl _, h | .fro _, h | .ref _, h => by simp [okD] at h
theorem lays_py : ∀ {a : List D}, okDs a = true → PyData.canLayAll0 (pys a) = true
  | [], _ => by simp only [pys, PyData.canLayAll0]
  | a :: as, h => by
    rw [okDs, Bool.and_eq_true] at h
    simp only [pys, PyData.canLayAll0]
    rw [lay_py h.1, lays_py h.2]
    rfl
end
mutual
theorem dep_py : ∀ {a : D}, okD a = true → (py a).depth = depD a
  | .non, _ => by simp only [py, PyData.depth, depD]
  | .int i, _ => by simp only [py, PyData.depth, depD]
  | .str s, h => by simp only [py, PyData.depth, depD]
  | .tup as, h => by rw [okD] at h; simp only [py, PyData.depth, depD]; rw [deps_py h]
  | .bl _, h | .fro _, h | .ref _, h => by simp [okD] at h
theorem deps_py : ∀ {a : List D}, okDs a = true → PyData.depthAll (pys a) = depDs a
  | [], _ => by simp only [pys, PyData.depthAll, depDs]
  | a :: as, h => by
    rw [okDs, Bool.and_eq_true] at h
    simp only [pys, PyData.depthAll, depDs]
    rw [dep_py h.1, deps_py h.2]
end
theorem shaped_py {a : D} (h : okD a = true) (hd : depD a ≤ 60) : SeqAt.shaped (py a) = true := by
  show ((py a).canLay0 && decide ((py a).depth ≤ 64)) = true
  rw [lay_py h, dep_py h, decide_eq_true (by omega)]
  rfl
theorem deepEq_ok {h : AH} {a b : D} (ha : okD a = true) (hb : okD b = true) (da : depD a ≤ 60) (db : depD b ≤ 60) : deepEq h a b = some (decide (a = b)) := by
  unfold deepEq
  rw [toPy_py ha (by omega), toPy_py hb (by omega)]
  simp only [shaped_py ha da, shaped_py hb db, eqv_py ha hb, beqD_dec, Bool.and_self, if_true]
/-- == of plain data -/
theorem eqD_ok' {h : AH} {a b : D} (ha : okD a = true) (hb : okD b = true) (da : depD a ≤ 60) (db : depD b ≤ 60) : eqD h a b = some (decide (a = b)) := by
  unfold eqD
  split <;> first
    | (simp; done)
    | (simp [okD] at ha; done)
    | (simp [okD] at hb; done)
    | exact deepEq_ok ha hb da db
theorem ce_ok {h : AH} {a b : D} (ha : okD a = true) (hb : okD b = true) (da : depD a ≤ 60) (db : depD b ≤ 60) : cmpD .eq a b h = .ok (.bl (decide (a = b))) h := by
  simp only [cmpD, eqD_ok' ha hb da db, Option.map_some, ofO_s]
theorem cn_ok {h : AH} {a b : D} (ha : okD a = true) (hb : okD b = true) (da : depD a ≤ 60) (db : depD b ≤ 60) : cmpD .ne a b h = .ok (.bl (!decide (a = b))) h := by
  simp only [cmpD, eqD_ok' ha hb da db, Option.map_some, ofO_s]
end Rf

namespace Rf
open PySem PySem.Spec PyProof.Rows L2

/-! ### what a run leaves -/
def Post {α : Type} (r : Rs α) (P : α → AH → Prop) : Prop := ∃ a h, r = .ok a h ∧ P a h
theorem Post.ok {α : Type} {a : α} {h : AH} {P : α → AH → Prop} (p : P a h) : Post (.ok a h) P := ⟨a, h, rfl, p⟩
theorem Post.bind {α β : Type} {r : Rs α} {f : α → AH → Rs β} {P : α → AH → Prop} {Q : β → AH → Prop} (p : Post r P) (q : ∀ a h, P a h → Post (f a h) Q) : Post (r.bind f) Q := by
  obtain ⟨a, h, rfl, pa⟩ := p
  exact q a h pa
theorem Post.imp {α : Type} {r : Rs α} {P Q : α → AH → Prop} (p : Post r P) (q : ∀ a h, P a h → Q a h) : Post r Q := by
  obtain ⟨a, h, e, pa⟩ := p
  exact ⟨a, h, e, q a h pa⟩
theorem Post.eq {α : Type} {r : Rs α} {a : α} {h : AH} {P : α → AH → Prop} (e : r = .ok a h) (p : P a h) : Post r P := ⟨a, h, e, p⟩
/-- a for over written items: the invariant speaks of the items not yet seen -/
def NxI (I : Env' → AH → Prop) : Fl → AH → Prop
  | .nx e, h => I e h
  | .ct e, h => I e h
  | _, _ => False
theorem forD_ok {body : D → Env' → AH → Rs Fl} {I : Nat → Env' → AH → Prop} : ∀ {ds : List D} {e : Env'} {h : AH}, I ds.length e h → (∀ d, d ∈ ds → ∀ n e1 h1, n < ds.length → I (n + 1) e1 h1 → Post (body d e1 h1) (NxI (I n))) → Post (forD body ds e h) (fun f h => ∃ e1, f = .nx e1 ∧ I 0 e1 h)
  | [], e, h, i, _ => ⟨_, _, rfl, _, rfl, i⟩
  | d :: ds, e, h, i, b => by
    obtain ⟨f, h1, e1, p⟩ := b d (List.mem_cons_self ..) ds.length e h (by simp) i
    rw [forD, e1, Rs.bind_ok]
    cases f with
    | nx e2 => exact forD_ok p fun d m n e1 h1 hn => b d (List.mem_cons_of_mem _ m) n e1 h1 (by simp only [List.length_cons]; omega)
    | ct e2 => exact forD_ok p fun d m n e1 h1 hn => b d (List.mem_cons_of_mem _ m) n e1 h1 (by simp only [List.length_cons]; omega)
    | bk e2 => exact p.elim
    | rt x => exact p.elim
theorem forN_ok {body : D → Env' → AH → Rs Fl} {n : Nat} {ds : List D} {I : Env' → AH → Prop} (g : ∀ e h, I e h → getL h n = some ds) (b : ∀ d, d ∈ ds → ∀ e1 h1, I e1 h1 → Post (body d e1 h1) (NxI I)) : ∀ (c i : Nat) {e : Env'} {h : AH}, i + c = ds.length → I e h → Post (forN body n c i e h) (fun f h => ∃ e1, f = .nx e1 ∧ I e1 h)
  | 0, i, e, h, hl, hi => by
    rw [forN, g _ _ hi]
    simp only
    rw [if_pos (by omega)]
    exact ⟨_, _, rfl, _, rfl, hi⟩
  | c + 1, i, e, h, hl, hi => by
    have hlt : i < ds.length := by omega
    rw [forN, g _ _ hi]
    simp only [List.getElem?_eq_getElem hlt]
    obtain ⟨f, h1, e1, p⟩ := b ds[i] (List.getElem_mem _) e h hi
    rw [e1, Rs.bind_ok]
    cases f with
    | nx e2 => exact forN_ok g b c (i + 1) (by omega) p
    | ct e2 => exact forN_ok g b c (i + 1) (by omega) p
    | bk e2 => exact p.elim
    | rt x => exact p.elim
/-- a comprehension over written items that leaves out none -/
theorem lcD_ok {m : Nat} {step : D → AH → Rs (Option D)} {I : List D → AH → Prop} (g : ∀ acc h, I acc h → getL h m = some acc) : ∀ {ds : List D} {acc : List D} {h : AH}, acc.length + ds.length ≤ lim → I acc h →
    (∀ d, d ∈ ds → ∀ acc h, I acc h → Post (step d h) (fun r h1 => ∃ y, r = some y ∧ getL h1 m = some acc ∧ I (acc ++ [y]) (h1.set m (.lst (acc ++ [y]))))) → Post (lcD m step ds h) (fun d h => d = .ref m ∧ ∃ acc', I acc' h ∧ acc'.length = acc.length + ds.length)
  | [], acc, h, _, i, _ => ⟨_, _, rfl, rfl, acc, i, by simp⟩
  | d :: ds, acc, h, hl, i, b => by
    obtain ⟨r, h1, e1, y, rfl, e2, i2⟩ := b d (List.mem_cons_self ..) acc h i
    simp only [List.length_cons] at hl
    rw [lcD, e1, Rs.bind_ok]
    simp only [e2]
    rw [if_pos (by omega)]
    refine (lcD_ok g (acc := acc ++ [y]) (by simp only [List.length_append, List.length_cons, List.length_nil]; omega) i2 fun d m => b d (List.mem_cons_of_mem _ m)).imp fun a h p => ⟨p.1, ?_⟩
    obtain ⟨acc', p1, p2⟩ := p.2
    refine ⟨acc', p1, ?_⟩
    simp only [List.length_append, List.length_cons, List.length_nil] at p2 ⊢
    omega
theorem range_len : ∀ {lo : Int} {i n : Nat}, (rangeD lo i n).length = n
  | _, _, 0 => rfl
  | lo, i, n + 1 => by rw [rangeD, List.length_cons, range_len]
theorem range_mem : ∀ {lo : Int} {i n : Nat} {d : D}, d ∈ rangeD lo i n → ∃ j : Nat, d = .int (lo + j) ∧ i ≤ j ∧ j < i + n
  | lo, i, 0, d, h => by simp [rangeD] at h
  | lo, i, n + 1, d, h => by
    rw [rangeD, List.mem_cons] at h
    rcases h with h | h
    · exact ⟨i, h, by omega, by omega⟩
    · obtain ⟨j, e, a, b⟩ := range_mem h
      exact ⟨j, e, by omega, by omega⟩
theorem src_rng1 {j : Int} {h : AH} (h0 : j.natAbs ≤ 900000000) : srcOf .rng1 [.int j] h = some (.ds (rangeD 0 0 j.toNat)) := by
  simp only [srcOf]
  rw [if_pos h0]
theorem src_len {n : Nat} {h : AH} (h1 : n ≤ 1000000) : srcOf .rng1 [.int (n : Int)] h = some (.ds (rangeD 0 0 n)) := by
  have a : (n : Int).natAbs ≤ 900000000 := by omega
  rw [src_rng1 a, Int.toNat_natCast]
theorem src_lst' {n : Nat} {ds : List D} {h : AH} (e : h[n]? = some (.lst ds)) : srcOf .seq [.ref n] h = some (.ln n ds.length) := by
  simp only [srcOf, getL, e, Option.map_some]
/-- only the object s is written, and new ones -/
structure Fx (s : Nat) (h h' : AH) : Prop where
  len : h.length ≤ h'.length
  old : ∀ n, n < h.length → n ≠ s → h'[n]? = h[n]?
theorem Fx.refl {s : Nat} {h : AH} : Fx s h h := ⟨Nat.le_refl _, fun _ _ _ => rfl⟩
theorem Fx.trans {s : Nat} {h h1 h2 : AH} (a : Fx s h h1) (b : Fx s h1 h2) : Fx s h h2 := ⟨Nat.le_trans a.len b.len, fun n l m => (b.old n (Nat.lt_of_lt_of_le l a.len) m).trans (a.old n l m)⟩
theorem Fx.app {s : Nat} {h : AH} {o : Ob} : Fx s h (h ++ [o]) := ⟨by simp, fun n l _ => List.getElem?_append_left l⟩
theorem Fx.at {s : Nat} {h h' : AH} (x : Fx s h h') {n : Nat} {o : Ob} (e : h[n]? = some o) (hn : n ≠ s) : h'[n]? = some o := (x.old n (List.getElem?_eq_some_iff.mp e).1 hn).trans e
/-- a new object is written -/
theorem Fx.wr {s m : Nat} {h h' : AH} {o : Ob} (x : Fx s h h') (hm : h.length ≤ m) : Fx s h (h'.set m o) := ⟨by simpa using x.len, fun n l hn => by rw [set_out (by omega)]; exact x.old n l hn⟩
theorem Dr.fx {s l : Nat} {h h' : AH} (d : Dr s l h) (x : Fx s h h') (e : h'[s]? = h[s]?) : Dr s l h' := by
  obtain ⟨ne, ns, a, b, c, e1, e2, r⟩ := d
  exact ⟨ne, ns, a, b, c, e.trans e1, x.at e2 (Ne.symm ne), r⟩
theorem Dr.app {s l : Nat} {h : AH} {o : Ob} (d : Dr s l h) : Dr s l (h ++ [o]) := by
  obtain ⟨ne, ns, a, b, c, e1, e2, r⟩ := d
  exact ⟨ne, ns, a, b, c, app_old e1, app_old e2, r⟩
theorem Dr.set {s l m : Nat} {h : AH} {o : Ob} (d : Dr s l h) (h1 : m ≠ s) (h2 : m ≠ l) : Dr s l (h.set m o) := by
  obtain ⟨ne, ns, a, b, c, e1, e2, r⟩ := d
  exact ⟨ne, ns, a, b, c, (set_out (Ne.symm h1)).trans e1, (set_out (Ne.symm h2)).trans e2, r⟩
theorem Dr.lt {s l : Nat} {h : AH} (d : Dr s l h) : s < h.length ∧ l < h.length := by
  obtain ⟨ne, ns, a, b, c, e1, e2, r⟩ := d
  exact ⟨(List.getElem?_eq_some_iff.mp e1).1, (List.getElem?_eq_some_iff.mp e2).1⟩
theorem next_fx {T : List Def} {i : Nat} (hT : T[i]? = some d_next) (k : Nat) {h : AH} {s l : Nat} (dr : Dr s l h) {m : Int} (h1 : 1 ≤ m) (h2 : m < 1073741824) :
    ∃ v h', calls T (k + 1) i [.ref s, .int m] h = .ok (.int v) h' ∧ 0 ≤ v ∧ v < m ∧ Dr s l h' ∧ h'.length = h.length ∧ Fx s h h' := by
  obtain ⟨v, h', e, a, b, c, d, f⟩ := next_ok hT k dr h1 h2
  exact ⟨v, h', e, a, b, c, d, ⟨by omega, fun n _ hn => f n hn⟩⟩
theorem bt_intb {b : Bool} {h : AH} : bltD .int [.bl b] h = .ok (.int (if b then 1 else 0)) h := rfl
theorem mt_app {n : Nat} {ds : List D} {d : D} {h : AH} (e : h[n]? = some (.lst ds)) (hl : ds.length < lim) : mthD .append (.ref n) [d] h = .ok .non (h.set n (.lst (ds ++ [d]))) := by
  simp only [mthD, e]
  rw [if_pos hl]
theorem mty_app {n : Nat} {ds : List D} {h : AH} (e : h[n]? = some (.lst ds)) : mthTy .append (.ref n) h = true := by
  simp only [mthTy, e]
theorem sl_lst {n : Nat} {ds : List D} {lo hi : Option Int} {h : AH} (e : h[n]? = some (.lst ds)) : slcD (.ref n) lo hi h = .ok (.ref h.length) (h ++ [.lst (Rf.cutD ds lo hi)]) := by
  simp only [slcD, getL, e]
  rfl
theorem cut_nat {α : Type} {t : List α} {v : Int} (h0 : 0 ≤ v) : Rf.cutD t none (some v) = t.take (min v.toNat t.length) := by
  have e : sx t.length t.length (some v) = min v.toNat t.length := by
    simp only [sx]
    rw [if_neg (by omega)]
  unfold Rf.cutD
  rw [e]
  show ((t.drop 0).take (_ - 0)) = _
  rw [List.drop_zero, Nat.sub_zero]
theorem at_ok {α : Type} {l : List α} {v : Int} (h0 : 0 ≤ v) (h1 : v < l.length) : ∃ x, atD l v = some x ∧ x ∈ l := by
  rw [at_nat h0, List.getElem?_eq_getElem (by omega)]
  exact ⟨_, rfl, List.getElem_mem _⟩
end Rf

namespace Rf
open PySem PySem.Spec PyProof.Rows L2

/-! ### _law_same -/
def c_sameL (i : Nat) : CS := (.seq (.ife (.not (.call i (.ac (.idx (.var 0) (.var 2)) (.ac (.idx (.var 1) (.var 2)) .an))))
      (.seq (.ret (.cst (.bl false)))
      .skip)
      .skip)
    .skip)
def c_same (i : Nat) : CS :=
  (.seq (.ife (.isN false (.var 1))
    (.seq (.ret (.isN false (.var 0)))
    .skip)
    .skip)
  (.seq (.ife (.isi .bool (.var 1))
    (.seq (.ret (.and (.isi .bool (.var 0)) (.cmp .eq (.var 0) (.var 1))))
    .skip)
    .skip)
  (.seq (.ife (.isi .int (.var 1))
    (.seq (.ret (.and (.isi .int (.var 0)) (.and (.not (.isi .bool (.var 0))) (.cmp .eq (.var 0) (.var 1)))))
    .skip)
    .skip)
  (.seq (.ife (.isi .str (.var 1))
    (.seq (.ret (.and (.isi .str (.var 0)) (.cmp .eq (.var 0) (.var 1))))
    .skip)
    .skip)
  (.seq (.ife (.and (.isi .tuple (.var 1)) (.not (.isi .tuple (.var 0))))
    (.seq (.ret (.cst (.bl false)))
    .skip)
    .skip)
  (.seq (.ife (.and (.isi .list (.var 1)) (.not (.isi .list (.var 0))))
    (.seq (.ret (.cst (.bl false)))
    .skip)
    .skip)
  (.seq (.ife (.cmp .ne (.blt .len (.ac (.var 0) .an)) (.blt .len (.ac (.var 1) .an)))
    (.seq (.ret (.cst (.bl false)))
    .skip)
    .skip)
  (.seq (.for_ .rng1 (.ac (.blt .len (.ac (.var 1) .an)) .an) (.one 2) (c_sameL i))
  (.seq (.ret (.cst (.bl true)))
  .skip)))))))))
def d_same (i : Nat) : Def := ⟨2, 3, c_same i⟩
theorem okDs_get : ∀ {ds : List D} {i : Nat} {d : D}, okDs ds = true → ds[i]? = some d → okD d = true
  | [], i, d, _, e => by simp at e
  | a :: ds, 0, d, h, e => by
    rw [okDs, Bool.and_eq_true] at h
    simp at e; subst e; exact h.1
  | a :: ds, i + 1, d, h, e => by
    rw [okDs, Bool.and_eq_true] at h
    exact okDs_get h.2 (by simpa using e)
theorem depDs_get : ∀ {ds : List D} {i : Nat} {d : D}, ds[i]? = some d → depD d ≤ depDs ds
  | [], i, d, e => by simp at e
  | a :: ds, 0, d, e => by
    simp at e; subst e; rw [depDs]; omega
  | a :: ds, i + 1, d, e => by
    have := depDs_get (ds := ds) (i := i) (d := d) (by simpa using e)
    rw [depDs]; omega
theorem same_bl {T : List Def} {i : Nat} (hT : T[i]? = some (d_same i)) (k : Nat) {h : AH} (a b : Bool) : calls T (k + 1) i [.bl a, .bl b] h = .ok (.bl (decide (a = b))) h := by
  rw [calls_ok hT rfl]
  show (exec (calls T k) (c_same i) [some (.bl a), some (.bl b), none] h).bind retF = _
  simp only [c_same, exec, evT, ev, evs, Rs.bind_ok, List.getElem?_cons_zero, List.getElem?_cons_succ, isD, Option.map_some, ofO_s, tr_bl, Bool.false_eq_true, if_false, if_true, ce_bl, retF]
section
variable {T : List Def} {i : Nat}
theorem sameL {cal : Cal} {h : AH} {as bs : List D} (hl : as.length = bs.length) (hc : ∀ (j : Nat) (x y : D), as[j]? = some x → bs[j]? = some y → cal i [x, y] h = .ok (.bl (decide (x = y))) h) : ∀ (m j : Nat) (z : Option D), j + m = bs.length →
    (as.drop j = bs.drop j → ∃ z', forD (fun d e1 h2 => match bindT (.one 2) d e1 h2 with
        | none => .no
        | some e2 => exec cal (c_sameL i) e2 h2) (rangeD 0 j m) [some (.tup as), some (.tup bs), z] h = .ok (.nx [some (.tup as), some (.tup bs), z']) h) ∧
    (as.drop j ≠ bs.drop j → forD (fun d e1 h2 => match bindT (.one 2) d e1 h2 with
        | none => .no
        | some e2 => exec cal (c_sameL i) e2 h2) (rangeD 0 j m) [some (.tup as), some (.tup bs), z] h = .ok (.rt (.bl false)) h)
  | 0, j, z, hj => by
    have e1 : as.drop j = [] := List.drop_eq_nil_of_le (by omega)
    have e2 : bs.drop j = [] := List.drop_eq_nil_of_le (by omega)
    refine ⟨fun _ => ⟨z, ?_⟩, fun hne => absurd (e1.trans e2.symm) hne⟩
    rw [rangeD, forD]
  | m + 1, j, z, hj => by
    have ha : j < as.length := by omega
    have hb : j < bs.length := by omega
    have ih := sameL hl hc m (j + 1) (some (.int (0 + (j : Int)))) (by omega)
    have g1 : atD as (0 + (j : Int)) = some as[j] := by rw [at_nat (by omega)]; rw [show (0 + (j : Int)).toNat = j by omega]; exact List.getElem?_eq_getElem ha
    have g2 : atD bs (0 + (j : Int)) = some bs[j] := by rw [at_nat (by omega)]; rw [show (0 + (j : Int)).toNat = j by omega]; exact List.getElem?_eq_getElem hb
    have hcall := hc j _ _ (List.getElem?_eq_getElem ha) (List.getElem?_eq_getElem hb)
    rw [List.drop_eq_getElem_cons ha, List.drop_eq_getElem_cons hb, rangeD, forD]
    have step : (match bindT (.one 2) (.int (0 + (j : Int))) [some (.tup as), some (.tup bs), z] h with
        | none => Rs.no
        | some e2 => exec cal (c_sameL i) e2 h) = if as[j] = bs[j] then .ok (.nx [some (.tup as), some (.tup bs), some (.int (0 + (j : Int)))]) h else .ok (.rt (.bl false)) h := by
      simp only [bindT, List.set_cons_succ, List.set_cons_zero, c_sameL, exec, evT, ev, evs, Rs.bind_ok, List.getElem?_cons_zero, List.getElem?_cons_succ, idx_tup, g1, g2, ofO_s, hcall, tr_bl]
      by_cases e : as[j] = bs[j]
      · simp only [decide_eq_true e, Bool.not_true, Bool.false_eq_true, if_false, if_pos e, Rs.bind_ok]
      · simp only [decide_eq_false e, Bool.not_false, if_true, if_neg e, Rs.bind_ok]
    rw [step]
    by_cases e : as[j] = bs[j]
    · rw [if_pos e, Rs.bind_ok]
      constructor
      · intro h2
        injection h2 with _ h2
        exact ih.1 h2
      · intro h2
        exact ih.2 fun z => h2 (by rw [e, z])
    · rw [if_neg e, Rs.bind_ok]
      exact ⟨fun h2 => by injection h2 with h2 _; exact absurd h2 e, fun _ => rfl⟩
end
end Rf

namespace Rf
open PySem PySem.Spec PyProof.Rows L2

/-! ### equality of lists -/
def Ok1 (d : D) : Prop := okD d = true ∧ depD d ≤ 50
def OkL (ds : List D) : Prop := okDs ds = true ∧ depDs ds ≤ 49
theorem OkL.tup {ds : List D} (o : OkL ds) : Ok1 (.tup ds) := ⟨by rw [okD]; exact o.1, by rw [depD]; have := o.2; omega⟩
theorem OkL.nil : OkL [] := ⟨by rw [okDs], by rw [depDs]; omega⟩
theorem OkL.cons {d : D} {ds : List D} (a : okD d = true ∧ depD d ≤ 49) (o : OkL ds) : OkL (d :: ds) := ⟨by rw [okDs, a.1, o.1]; rfl, by rw [depDs]; have := o.2; omega⟩
theorem OkL.all {ds : List D} (h : ∀ d, d ∈ ds → okD d = true ∧ depD d ≤ 49) : OkL ds := by
  induction ds with
  | nil => exact OkL.nil
  | cons d ds ih => exact OkL.cons (h d (List.mem_cons_self ..)) (ih fun x m => h x (List.mem_cons_of_mem _ m))
theorem OkL.mem : ∀ {ds : List D}, OkL ds → ∀ d, d ∈ ds → okD d = true ∧ depD d ≤ 49
  | [], _, d, m => absurd m (List.not_mem_nil)
  | a :: ds, o, d, m => by
    obtain ⟨o1, o2⟩ := o
    rw [okDs, Bool.and_eq_true] at o1
    rw [depDs] at o2
    rcases List.mem_cons.mp m with e | m
    · rw [e]; exact ⟨o1.1, by omega⟩
    · exact OkL.mem ⟨o1.2, by omega⟩ d m
theorem OkL.take {ds : List D} (o : OkL ds) (n : Nat) : OkL (ds.take n) := OkL.all fun d m => o.mem d (List.mem_of_mem_take m)
theorem OkL.app {as bs : List D} (a : OkL as) (b : OkL bs) : OkL (as ++ bs) := OkL.all fun d m => (List.mem_append.mp m).elim (a.mem d) (b.mem d)
theorem ce1 {h : AH} {a b : D} (oa : Ok1 a) (ob : Ok1 b) : cmpD .eq a b h = .ok (.bl (decide (a = b))) h := ce_ok oa.1 ob.1 (by have := oa.2; omega) (by have := ob.2; omega)
theorem cn1 {h : AH} {a b : D} (oa : Ok1 a) (ob : Ok1 b) : cmpD .ne a b h = .ok (.bl (!decide (a = b))) h := cn_ok oa.1 ob.1 (by have := oa.2; omega) (by have := ob.2; omega)
theorem ce_tup {h : AH} {as bs : List D} (oa : OkL as) (ob : OkL bs) : cmpD .eq (.tup as) (.tup bs) h = .ok (.bl (decide (as = bs))) h := by
  rw [ce1 oa.tup ob.tup]
  simp only [D.tup.injEq]
theorem toPy_lst {h : AH} {n : Nat} {ds : List D} (e : h[n]? = some (.lst ds)) (o : OkL ds) : toPy h 66 (.ref n) = some (.list (pys ds)) := by
  have := o.2
  rw [toPy]
  simp only [getL, e]
  rw [toPys_py o.1 (by omega)]
  rfl
theorem shaped_lst {ds : List D} (o : OkL ds) : SeqAt.shaped (.list (pys ds)) = true := by
  have := o.2
  show (PyData.canLayAll0 (pys ds) && decide (PyData.depthAll (pys ds) + 1 ≤ 64)) = true
  rw [lays_py o.1, deps_py o.1, decide_eq_true (by omega)]
  rfl
theorem deq_lst {h : AH} {m n : Nat} {as bs : List D} (ea : h[m]? = some (.lst as)) (eb : h[n]? = some (.lst bs)) (oa : OkL as) (ob : OkL bs) : eqD h (.ref m) (.ref n) = some (decide (as = bs)) := by
  show deepEq h (.ref m) (.ref n) = _
  unfold deepEq
  rw [toPy_lst ea oa, toPy_lst eb ob]
  simp only [shaped_lst oa, shaped_lst ob, Bool.and_self, if_true]
  show some (PyData.eqvAll (pys as) (pys bs)) = _
  rw [eqvs_py oa.1 ob.1, beqs_dec]
theorem ce_lst {h : AH} {m n : Nat} {as bs : List D} (ea : h[m]? = some (.lst as)) (eb : h[n]? = some (.lst bs)) (oa : OkL as) (ob : OkL bs) : cmpD .eq (.ref m) (.ref n) h = .ok (.bl (decide (as = bs))) h := by
  simp only [cmpD, deq_lst ea eb oa ob, Option.map_some, ofO_s]
theorem cn_lst {h : AH} {m n : Nat} {as bs : List D} (ea : h[m]? = some (.lst as)) (eb : h[n]? = some (.lst bs)) (oa : OkL as) (ob : OkL bs) : cmpD .ne (.ref m) (.ref n) h = .ok (.bl (!decide (as = bs))) h := by
  simp only [cmpD, deq_lst ea eb oa ob, Option.map_some, ofO_s]

/-! ### places -/
def c_pre : CS := (.seq (.set 2 (.blt .len (.ac (.idx (.var 0) (.cst (.int 1))) .an)))
  (.seq (.ret (.and (.cmp .eq (.idx (.var 0) (.cst (.int 0))) (.idx (.var 1) (.cst (.int 0)))) (.cmp .eq (.idx (.var 0) (.cst (.int 1))) (.slc false true (.idx (.var 1) (.cst (.int 1))) .an (.var 2)))))
  .skip))
def d_pre : Def := ⟨2, 3, c_pre⟩
def c_over (i : Nat) : CS := (.seq (.ret (.or (.call i (.ac (.var 0) (.ac (.var 1) .an))) (.call i (.ac (.var 1) (.ac (.var 0) .an)))))
  .skip)
def d_over (i : Nat) : Def := ⟨2, 2, c_over i⟩
def ip (x : D) (s : List D) (y : D) (t : List D) : Bool := decide (x = y) && decide (s = t.take s.length)
theorem cut_len {α : Type} {t : List α} {n : Nat} : Rf.cutD t none (some (n : Int)) = t.take n := by
  rw [cut_nat (by omega), Int.toNat_natCast]
  exact (List.take_eq_take_min).symm
section
variable {T : List Def} {i j : Nat} {x y : D} {s t : List D}
theorem pre_ok (hT : T[i]? = some d_pre) (hx : Ok1 x) (hy : Ok1 y) (hs : OkL s) (ht : OkL t) (k : Nat) (h : AH) : calls T (k + 1) i [.tup [x, .tup s], .tup [y, .tup t]] h = .ok (.bl (ip x s y t)) h := by
  rw [calls_ok hT rfl]
  show (exec (calls T k) c_pre [some (.tup [x, .tup s]), some (.tup [y, .tup t]), none] h).bind retF = _
  simp only [c_pre, exec, ev, evs, Rs.bind_ok, List.getElem?_cons_zero, List.getElem?_cons_succ, idx_tup, at0, at1, ofO_s, bt_len_tup, List.set_cons_succ, List.set_cons_zero, ce1 hx hy, tr_bl]
  by_cases e : x = y
  · simp only [decide_eq_true e, slcD, cut_len, Rs.bind_ok, ce_tup hs (ht.take s.length), retF, ip, Bool.true_and, if_true, Bool.false_eq_true, if_false]
  · simp only [decide_eq_false e, Rs.bind_ok, retF, ip, Bool.false_and]
theorem over_ok (hT : T[i]? = some d_pre) (hT2 : T[j]? = some (d_over i)) (hx : Ok1 x) (hy : Ok1 y) (hs : OkL s) (ht : OkL t) (k : Nat) (h : AH) : calls T (k + 2) j [.tup [x, .tup s], .tup [y, .tup t]] h = .ok (.bl (ip x s y t || ip y t x s)) h := by
  rw [calls_ok hT2 rfl]
  show (exec (calls T (k + 1)) (c_over i) [some (.tup [x, .tup s]), some (.tup [y, .tup t])] h).bind retF = _
  simp only [c_over, exec, ev, evs, Rs.bind_ok, List.getElem?_cons_zero, List.getElem?_cons_succ, pre_ok hT hx hy hs ht, tr_bl]
  cases ip x s y t with
  | true => simp only [Rs.bind_ok, retF, Bool.true_or]
  | false => simp only [Rs.bind_ok, retF, Bool.false_or, pre_ok hT hy hx ht hs]
end
theorem ip_refl {x : D} {s : List D} : ip x s x s = true := by simp [ip]
theorem ip_iff {x y : D} {s t : List D} : ip x s y t = true ↔ x = y ∧ s <+: t := by
  simp only [ip, Bool.and_eq_true, decide_eq_true_eq, List.prefix_iff_eq_take]
theorem ip_anti {x y : D} {s t : List D} (a : ip x s y t = true) (b : ip y t x s = true) : x = y ∧ s = t := by
  obtain ⟨e, a⟩ := ip_iff.mp a
  obtain ⟨_, b⟩ := ip_iff.mp b
  exact ⟨e, a.eq_of_length (Nat.le_antisymm a.length_le b.length_le)⟩
theorem ip_trans {x y z : D} {s t u : List D} (a : ip x s y t = true) (b : ip y t z u = true) : ip x s z u = true := by
  obtain ⟨e, a⟩ := ip_iff.mp a
  obtain ⟨f, b⟩ := ip_iff.mp b
  exact ip_iff.mpr ⟨e.trans f, a.trans b⟩

/-! ### drawn lists -/
theorem es_ne {e : Env'} {i j : Nat} {x : Option D} (h : i ≠ j) : (e.set i x)[j]? = e[j]? := List.getElem?_set_ne h
theorem es_eq {e : Env'} {i : Nat} {x : Option D} (h : i < e.length) : (e.set i x)[i]? = some x := by rw [List.getElem?_set_self h]
/-- the draws and the menu stand -/
def J (M : List D) (h : AH) : Prop := Dr 1 0 h ∧ h[2]? = some (.lst M)
structure En (L : Nat) (e : Env') : Prop where
  len : e.length = L
  e1 : e[1]? = some (some (.ref 1))
  e2 : e[2]? = some (some (.ref 2))
theorem En.set {L : Nat} {e : Env'} {i : Nat} {x : Option D} (n : En L e) (hi : 3 ≤ i) : En L (e.set i x) := ⟨by rw [List.length_set]; exact n.len, (es_ne (by omega)).trans n.e1, (es_ne (by omega)).trans n.e2⟩
section
variable {M : List D}
theorem J.lt {h : AH} (j : J M h) : 2 < h.length := (List.getElem?_eq_some_iff.mp j.2).1
theorem J.app {h : AH} {o : Ob} (j : J M h) : J M (h ++ [o]) := ⟨j.1.app, app_old j.2⟩
theorem J.set {h : AH} {m : Nat} {o : Ob} (j : J M h) (hm : 3 ≤ m) : J M (h.set m o) := ⟨j.1.set (by omega) (by omega), (set_out (by omega)).trans j.2⟩
variable {T : List Def} {nx : Nat} (hT : T[nx]? = some d_next)
include hT
theorem draw (k : Nat) {h : AH} (j : J M h) {m : Int} (h1 : 1 ≤ m) (h2 : m < 1073741824) : ∃ v h', calls T (k + 1) nx [.ref 1, .int m] h = .ok (.int v) h' ∧ 0 ≤ v ∧ v < m ∧ J M h' ∧ h'.length = h.length ∧ Fx 1 h h' := by
  obtain ⟨v, h', e, a, b, c, d, f⟩ := next_fx hT k j.1 h1 h2
  exact ⟨v, h', e, a, b, ⟨c, f.at j.2 (by decide)⟩, d, f⟩
def elC (nx : Nat) (b : Int) : CE := .idx (.var 2) (.call nx (.ac (.var 1) (.ac (.cst (.int b)) .an)))
def dlC (nx slot : Nat) (b c : Int) : CE := .lc .rng1 (.ac (.call nx (.ac (.var 1) (.ac (.cst (.int c)) .an))) .an) (.one slot) [slot] false .an (elC nx b)
theorem el_ok (k : Nat) {L : Nat} {b : Int} (b1 : 1 ≤ b) (b2 : b ≤ M.length) (b3 : b ≤ 1000) {e : Env'} {h : AH} (n : En L e) (j : J M h) : Post (ev (calls T (k + 1)) (elC nx b) e h) (fun d h' => d ∈ M ∧ J M h' ∧ Fx 1 h h' ∧ h'.length = h.length) := by
  obtain ⟨v, h1, c1, v0, v1, j1, l1, f1⟩ := draw hT k j b1 (by omega)
  obtain ⟨x, hx, hm⟩ := at_ok (l := M) v0 (by omega)
  refine Post.eq (a := x) (h := h1) ?_ ⟨hm, j1, f1, l1⟩
  simp only [elC, ev, evs, n.e1, n.e2, Rs.bind_ok, c1, idx_lst j1.2, hx, ofO_s]
/-- a list of drawn steps -/
theorem dl_ok (k : Nat) {L slot : Nat} (hs : 3 ≤ slot) {b c : Int} (b1 : 1 ≤ b) (b2 : b ≤ M.length) (b3 : b ≤ 1000) (h1 : 1 ≤ c) (h2 : c ≤ 1000) {e : Env'} {h : AH} (n : En L e) (j : J M h) :
    Post (ev (calls T (k + 1)) (dlC nx slot b c) e h) (fun d h' => ∃ m acc, d = .ref m ∧ h.length ≤ m ∧ h'[m]? = some (.lst acc) ∧ (∀ d, d ∈ acc → d ∈ M) ∧ (acc.length : Int) < c ∧ J M h' ∧ Fx 1 h h') := by
  obtain ⟨v, h1', c1, v0, v1, j1, l1, f1⟩ := draw hT k j h1 (by omega)
  have hv : v.natAbs ≤ 900000000 := by omega
  simp only [dlC, ev, evs, n.e1, Rs.bind_ok, c1, src_rng1 hv]
  have hJ := j.lt
  refine (lcD_ok (m := h1'.length) (I := fun acc h' => h'[h1'.length]? = some (.lst acc) ∧ (∀ d, d ∈ acc → d ∈ M) ∧ J M h' ∧ Fx 1 h h') (fun acc h' i => getL_of i.1) (acc := []) ?_ ⟨app_new, fun d m => absurd m (List.not_mem_nil), j1.app, f1.trans Fx.app⟩ ?_).imp ?_
  · rw [range_len]
    show 0 + v.toNat ≤ 16777216
    omega
  · intro d _ acc h' ⟨i1, i2, i3, i4⟩
    have hlt : h1'.length < h'.length := (List.getElem?_eq_some_iff.mp i1).1
    obtain ⟨x, h3, q1, q2, q3, q4, q5⟩ := el_ok hT k b1 b2 b3 (e := (e.set slot none).set slot (some d)) ((n.set (by omega)).set (by omega)) i3
    refine Post.eq (a := some x) (h := h3) ?_ ⟨x, rfl, getL_of (q4.at i1 (by omega)), ?_⟩
    · simp only [lcStep, bindT, wipeE, Rs.bind_ok, q1, Bool.false_eq_true, if_false]
    · refine ⟨set_at (by omega), fun y hy => ?_, q3.set (by omega), (i4.trans q4).wr (by omega)⟩
      rcases List.mem_append.mp hy with hy | hy
      · exact i2 y hy
      · rw [List.mem_singleton.mp hy]; exact q2
  · intro a h' ⟨e1, acc, ⟨i1, i2, i3, i4⟩, i5⟩
    refine ⟨_, acc, e1, by omega, i1, i2, ?_, i3, i4⟩
    rw [i5, range_len]
    simp only [List.length_nil]
    omega
end
/-- a comprehension over written items that may leave some out -/
theorem lcD_if {m : Nat} {step : D → AH → Rs (Option D)} {I : List D → AH → Prop} (g : ∀ acc h, I acc h → getL h m = some acc) : ∀ {ds : List D} {acc : List D} {h : AH}, acc.length + ds.length ≤ lim → I acc h →
    (∀ d, d ∈ ds → ∀ acc h, I acc h → Post (step d h) (fun r h1 => match r with | none => I acc h1 | some y => getL h1 m = some acc ∧ I (acc ++ [y]) (h1.set m (.lst (acc ++ [y]))))) → Post (lcD m step ds h) (fun d h => d = .ref m ∧ ∃ acc', I acc' h ∧ acc'.length ≤ acc.length + ds.length)
  | [], acc, h, _, i, _ => ⟨_, _, rfl, rfl, acc, i, by simp⟩
  | d :: ds, acc, h, hl, i, b => by
    obtain ⟨r, h1, e1, p⟩ := b d (List.mem_cons_self ..) acc h i
    simp only [List.length_cons] at hl
    rw [lcD, e1, Rs.bind_ok]
    cases r with
    | none =>
      refine (lcD_if g (by omega) p fun d m => b d (List.mem_cons_of_mem _ m)).imp fun a h q => ⟨q.1, ?_⟩
      obtain ⟨acc', p1, p2⟩ := q.2
      refine ⟨acc', p1, ?_⟩
      simp only [List.length_cons]
      omega
    | some y =>
      obtain ⟨e2, i2⟩ := p
      simp only [e2]
      rw [if_pos (by omega)]
      refine (lcD_if g (acc := acc ++ [y]) (by simp only [List.length_append, List.length_cons, List.length_nil]; omega) i2 fun d m => b d (List.mem_cons_of_mem _ m)).imp fun a h p => ⟨p.1, ?_⟩
      obtain ⟨acc', p1, p2⟩ := p.2
      refine ⟨acc', p1, ?_⟩
      simp only [List.length_append, List.length_cons, List.length_nil] at p2 ⊢
      omega
/-- a for over written items, by the turn's number -/
theorem forD_ix {body : D → Env' → AH → Rs Fl} {I : Nat → Env' → AH → Prop} {ds0 : List D} (b : ∀ i d, ds0[i]? = some d → ∀ e1 h1, I i e1 h1 → Post (body d e1 h1) (NxI (I (i + 1)))) : ∀ {ds : List D} {i : Nat} {e : Env'} {h : AH}, ds = ds0.drop i → i ≤ ds0.length → I i e h → Post (forD body ds e h) (fun f h => ∃ e1, f = .nx e1 ∧ I ds0.length e1 h)
  | [], i, e, h, hd, hi, p => by
    have : ds0.length ≤ i := List.drop_eq_nil_iff.mp hd.symm
    have e0 : i = ds0.length := Nat.le_antisymm hi this
    subst e0
    exact ⟨_, _, rfl, _, rfl, p⟩
  | d :: ds, i, e, h, hd, hi, p => by
    have hlt : i < ds0.length := by
      apply Classical.byContradiction
      intro z
      rw [List.drop_eq_nil_of_le (by omega)] at hd
      cases hd
    rw [List.drop_eq_getElem_cons hlt] at hd
    injection hd with hd1 hd2
    obtain ⟨f, h1, e1, p1⟩ := b i d (by rw [hd1]; exact List.getElem?_eq_getElem hlt) e h p
    rw [forD, e1, Rs.bind_ok]
    cases f with
    | nx e2 => exact forD_ix b hd2 hlt p1
    | ct e2 => exact forD_ix b hd2 hlt p1
    | bk e2 => exact p1.elim
    | rt x => exact p1.elim
/-- a for over range(n) -/
theorem forR_ix {body : D → Env' → AH → Rs Fl} {I : Nat → Env' → AH → Prop} {n : Nat} {e : Env'} {h : AH} (p : I 0 e h) (b : ∀ i, i < n → ∀ e1 h1, I i e1 h1 → Post (body (.int (i : Int)) e1 h1) (NxI (I (i + 1)))) : Post (forD body (rangeD 0 0 n) e h) (fun f h => ∃ e1, f = .nx e1 ∧ I n e1 h) := by
  have := forD_ix (ds0 := rangeD 0 0 n) (I := I) (body := body) (fun i d hd e1 h1 q => by
    rw [rangeD_get] at hd
    split at hd
    · rename_i hi
      cases hd
      have e0 : (0 : Int) + ((0 + i : Nat) : Int) = (i : Int) := by omega
      rw [e0]
      exact b i hi e1 h1 q
    · cases hd) (ds := rangeD 0 0 n) (i := 0) (e := e) (h := h) rfl (Nat.zero_le _) p
  rw [range_len] at this
  exact this
/-- what stood, stands -/
def Ex (h h' : AH) : Prop := ∀ (n : Nat) (o : Ob), h[n]? = some o → h'[n]? = some o
theorem Ex.refl {h : AH} : Ex h h := fun _ _ e => e
theorem Ex.trans {h h1 h2 : AH} (a : Ex h h1) (b : Ex h1 h2) : Ex h h2 := fun n o e => b n o (a n o e)
theorem Ex.app {h : AH} {o : Ob} : Ex h (h ++ [o]) := fun _ _ e => app_old e
end Rf

namespace Rf.K37
open PySem PySem.Spec PyProof.Rows L2
def c_is_prefix : CS :=
  (.seq (.set 2 (.blt .len (.ac (.idx (.var 0) (.cst (.int 1))) .an)))
  (.seq (.ret (.and (.cmp .eq (.idx (.var 0) (.cst (.int 0))) (.idx (.var 1) (.cst (.int 0)))) (.cmp .eq (.idx (.var 0) (.cst (.int 1))) (.slc false true (.idx (.var 1) (.cst (.int 1))) .an (.var 2)))))
  .skip))
def d_is_prefix : Def := ⟨2, 3, c_is_prefix⟩
def c_overlap : CS :=
  (.seq (.ret (.or (.call 0 (.ac (.var 0) (.ac (.var 1) .an))) (.call 0 (.ac (.var 1) (.ac (.var 0) .an)))))
  .skip)
def d_overlap : Def := ⟨2, 2, c_overlap⟩
def s_conflicts0 : CS := (.set 3 (.idx (.var 0) (.cst (.int 1))))
def s_conflicts1 : CS := (.ife (.not (.call 1 (.ac (.var 3) (.ac (.idx (.var 1) (.cst (.int 1))) .an))))
    (.seq (.ret (.cst (.bl false)))
    .skip)
    .skip)
def s_conflicts2 : CS := (.ife (.cmp .eq (.idx (.var 0) (.cst (.int 0))) (.cst (.str [114, 101, 97, 100])))
    (.seq (.ret (.cmp .eq (.idx (.var 1) (.cst (.int 0))) (.cst (.str [101, 120, 99, 108, 117, 115, 105, 118, 101]))))
    .skip)
    .skip)
def s_conflicts3 : CS := (.ife (.and (.cmp .eq (.idx (.var 0) (.cst (.int 0))) (.cst (.str [115, 116, 111, 114, 101]))) (.and (.isN true (.var 2)) (.call 0 (.ac (.var 3) (.ac (.idx (.var 1) (.cst (.int 1))) .an)))))
    (.seq (.ret (.cmp .lt (.var 2) (.blt .len (.ac (.idx (.var 3) (.cst (.int 1))) .an))))
    .skip)
    .skip)
def s_conflicts4 : CS := (.ret (.cst (.bl true)))
def c_conflicts : CS :=
  (.seq s_conflicts0
  (.seq s_conflicts1
  (.seq s_conflicts2
  (.seq s_conflicts3
  (.seq s_conflicts4
  .skip)))))
def d_conflicts : Def := ⟨3, 4, c_conflicts⟩
def s_law_next0 : CS := (.set 2 (.blt .abs (.ac (.blt .int (.ac (.idx (.idx (.var 0) (.cst (.int 0))) (.idx (.var 0) (.cst (.int 1)))) .an)) .an)))
def s_law_next1 : CS := (.augIx .add (.var 0) (.cst (.int 1)) (.cst (.int 1)))
def s_law_next2 : CS := (.ife (.cmp .ge (.var 2) (.bin .pow (.cst (.int 10)) (.cst (.int 18))))
      (.seq (.setIx (.var 0) (.cst (.int 2)) (.var 2))
      .skip)
      (.seq (.setIx (.var 0) (.cst (.int 3)) (.bin .mod (.blt .int (.ac (.bin .add (.bin .add (.bin .mul (.idx (.var 0) (.cst (.int 3))) (.cst (.int 48271))) (.bin .mod (.blt .int (.ac (.var 2) .an)) (.cst (.int 2147483647)))) (.cst (.int 7))) .an)) (.cst (.int 2147483647))))
      .skip))
def s_law_next3 : CS := (.set 3 (.bin .mod (.blt .int (.ac (.idx (.var 0) (.cst (.int 2))) .an)) (.var 1)))
def s_law_next4 : CS := (.setIx (.var 0) (.cst (.int 2)) (.bin .fdv (.idx (.var 0) (.cst (.int 2))) (.var 1)))
def s_law_next5 : CS := (.ret (.var 3))
def s_law_next6 : CS := (.ife (.and (.cmp .eq (.idx (.var 0) (.cst (.int 2))) (.cst (.int 0))) (.cmp .lt (.idx (.var 0) (.cst (.int 1))) (.blt .len (.ac (.idx (.var 0) (.cst (.int 0))) .an))))
    (.seq s_law_next0
    (.seq s_law_next1
    (.seq s_law_next2
    .skip)))
    .skip)
def s_law_next7 : CS := (.ife (.cmp .gt (.idx (.var 0) (.cst (.int 2))) (.cst (.int 0)))
    (.seq s_law_next3
    (.seq s_law_next4
    (.seq s_law_next5
    .skip)))
    .skip)
def s_law_next8 : CS := (.setIx (.var 0) (.cst (.int 3)) (.bin .mod (.blt .int (.ac (.bin .add (.bin .mul (.idx (.var 0) (.cst (.int 3))) (.cst (.int 69621))) (.cst (.int 12345))) .an)) (.cst (.int 2147483647))))
def s_law_next9 : CS := (.ret (.bin .mod (.blt .int (.ac (.bin .fdv (.idx (.var 0) (.cst (.int 3))) (.cst (.int 7))) .an)) (.var 1)))
def c_law_next : CS :=
  (.seq s_law_next6
  (.seq s_law_next7
  (.seq s_law_next8
  (.seq s_law_next9
  .skip))))
def d_law_next : Def := ⟨2, 4, c_law_next⟩
def b_law_same0 : CS := (.seq (.ife (.not (.call 4 (.ac (.idx (.var 0) (.var 2)) (.ac (.idx (.var 1) (.var 2)) .an))))
      (.seq (.ret (.cst (.bl false)))
      .skip)
      .skip)
    .skip)
def l_law_same0 : CS := (.for_ .rng1 (.ac (.blt .len (.ac (.var 1) .an)) .an) (.one 2) b_law_same0)
def s_law_same0 : CS := (.ife (.isN false (.var 1))
    (.seq (.ret (.isN false (.var 0)))
    .skip)
    .skip)
def s_law_same1 : CS := (.ife (.isi .bool (.var 1))
    (.seq (.ret (.and (.isi .bool (.var 0)) (.cmp .eq (.var 0) (.var 1))))
    .skip)
    .skip)
def s_law_same2 : CS := (.ife (.isi .int (.var 1))
    (.seq (.ret (.and (.isi .int (.var 0)) (.and (.not (.isi .bool (.var 0))) (.cmp .eq (.var 0) (.var 1)))))
    .skip)
    .skip)
def s_law_same3 : CS := (.ife (.isi .str (.var 1))
    (.seq (.ret (.and (.isi .str (.var 0)) (.cmp .eq (.var 0) (.var 1))))
    .skip)
    .skip)
def s_law_same4 : CS := (.ife (.and (.isi .tuple (.var 1)) (.not (.isi .tuple (.var 0))))
    (.seq (.ret (.cst (.bl false)))
    .skip)
    .skip)
def s_law_same5 : CS := (.ife (.and (.isi .list (.var 1)) (.not (.isi .list (.var 0))))
    (.seq (.ret (.cst (.bl false)))
    .skip)
    .skip)
def s_law_same6 : CS := (.ife (.cmp .ne (.blt .len (.ac (.var 0) .an)) (.blt .len (.ac (.var 1) .an)))
    (.seq (.ret (.cst (.bl false)))
    .skip)
    .skip)
def s_law_same7 : CS := (.ret (.cst (.bl true)))
def c_law_same : CS :=
  (.seq s_law_same0
  (.seq s_law_same1
  (.seq s_law_same2
  (.seq s_law_same3
  (.seq s_law_same4
  (.seq s_law_same5
  (.seq s_law_same6
  (.seq l_law_same0
  (.seq s_law_same7
  .skip)))))))))
def d_law_same : Def := ⟨2, 3, c_law_same⟩
def e_law0 : CE := (.idx (.var 2) (.call 3 (.ac (.var 1) (.ac (.cst (.int 5)) .an))))
def e_law1 : CE := (.var 13)
def t_law0 : CE := (.cmp .eq (.idx (.var 3) (.var 13)) (.cst (.str [94])))
def e_law2 : CE := (.idx (.var 2) (.call 3 (.ac (.var 1) (.ac (.cst (.int 5)) .an))))
def s_law0 : CS := (.set 14 (.tup (.ac (.cst (.str [120])) (.ac (.blt .tuple (.ac (.slc false true (.var 9) .an (.var 12)) .an)) .an))))
def s_law1 : CS := (.set 15 (.blt .min2 (.ac (.var 12) (.ac (.blt .len (.ac (.var 3) .an)) .an))))
def s_law2 : CS := (.set 16 (.cmp .eq (.slc false true (.var 9) .an (.var 15)) (.slc false true (.var 3) .an (.var 15))))
def s_law3 : CS := (.set 17 (.var 16))
def s_law4 : CS := (.ife (.and (.cmp .eq (.var 10) (.cst (.str [114, 101, 97, 100]))) (.cmp .eq (.var 6) (.cst (.str [115, 104, 97, 114, 101, 100]))))
        (.seq (.set 17 (.cst (.bl false)))
        .skip)
        .skip)
def s_law5 : CS := (.ife (.and (.cmp .eq (.var 10) (.cst (.str [115, 116, 111, 114, 101]))) (.and (.isN true (.var 5)) (.and (.cmp .le (.var 12) (.blt .len (.ac (.var 3) .an))) (.cmp .le (.var 12) (.var 5)))))
        (.seq (.set 17 (.cst (.bl false)))
        .skip)
        .skip)
def s_law6 : CS := (.ife (.not (.call 4 (.ac (.call 2 (.ac (.tup (.ac (.var 10) (.ac (.var 14) .an))) (.ac (.var 7) (.ac (.var 5) .an)))) (.ac (.var 17) .an))))
        (.seq (.ret (.cst (.bl false)))
        .skip)
        .skip)
def s_law7 : CS := (.expr (.mth .append (.var 11) (.ac (.var 17) .an)))
def b_law0 : CS := (.seq s_law0
      (.seq s_law1
      (.seq s_law2
      (.seq s_law3
      (.seq s_law4
      (.seq s_law5
      (.seq s_law6
      (.seq s_law7
      .skip))))))))
def l_law0 : CS := (.for_ .rng1 (.ac (.bin .add (.blt .len (.ac (.var 9) .an)) (.cst (.int 1))) .an) (.one 12) b_law0)
def b_law1 : CS := (.seq (.ife (.and (.idx (.var 11) (.bin .add (.var 12) (.cst (.int 1)))) (.not (.call 2 (.ac (.tup (.ac (.var 10) (.ac (.tup (.ac (.cst (.str [120])) (.ac (.blt .tuple (.ac (.slc false true (.var 9) .an (.var 12)) .an)) .an))) .an))) (.ac (.var 7) (.ac (.var 5) .an))))))
          (.seq (.ret (.cst (.bl false)))
          .skip)
          .skip)
        .skip)
def l_law1 : CS := (.for_ .rng1 (.ac (.blt .len (.ac (.var 9) .an)) .an) (.one 12) b_law1)
def s_law8 : CS := (.set 11 (.lst .an))
def s_law9 : CS := (.ife (.cmp .ne (.var 10) (.cst (.str [115, 116, 111, 114, 101])))
      (.seq l_law1
      .skip)
      .skip)
def s_law10 : CS := (.ife (.call 2 (.ac (.tup (.ac (.var 10) (.ac (.tup (.ac (.cst (.str [121])) (.ac (.blt .tuple (.ac (.var 9) .an)) .an))) .an))) (.ac (.var 7) (.ac (.var 5) .an))))
      (.seq (.ret (.cst (.bl false)))
      .skip)
      .skip)
def b_law2 : CS := (.seq s_law8
    (.seq l_law0
    (.seq s_law9
    (.seq s_law10
    .skip))))
def l_law2 : CS := (.for_ .seq (.ac (.lst (.ac (.cst (.str [114, 101, 97, 100])) (.ac (.cst (.str [119, 114, 105, 116, 101])) (.ac (.cst (.str [109, 111, 118, 101])) (.ac (.cst (.str [115, 116, 111, 114, 101])) .an))))) .an) (.one 10) b_law2)
def s_law11 : CS := (.set 1 (.lst (.ac (.blt .list (.ac (.var 0) .an)) (.ac (.cst (.int 0)) (.ac (.cst (.int 0)) (.ac (.cst (.int 1)) .an))))))
def s_law12 : CS := (.set 2 (.lst (.ac (.cst (.int 0)) (.ac (.cst (.int 1)) (.ac (.cst (.str [97])) (.ac (.cst (.str [63])) (.ac (.cst (.str [94])) .an)))))))
def s_law13 : CS := (.set 3 (.lc .rng1 (.ac (.call 3 (.ac (.var 1) (.ac (.cst (.int 9)) .an))) .an) (.one 13) [13] false .an e_law0))
def s_law14 : CS := (.set 4 (.lc .rng1 (.ac (.blt .len (.ac (.var 3) .an)) .an) (.one 13) [13] true t_law0 e_law1))
def s_law15 : CS := (.set 5 (.cst .non))
def s_law16 : CS := (.ife (.and (.cmp .ne (.var 4) (.lst .an)) (.cmp .gt (.call 3 (.ac (.var 1) (.ac (.cst (.int 3)) .an))) (.cst (.int 0))))
    (.seq (.set 5 (.idx (.var 4) (.call 3 (.ac (.var 1) (.ac (.blt .len (.ac (.var 4) .an)) .an)))))
    .skip)
    .skip)
def s_law17 : CS := (.set 6 (.idx (.lst (.ac (.cst (.str [115, 104, 97, 114, 101, 100])) (.ac (.cst (.str [101, 120, 99, 108, 117, 115, 105, 118, 101])) .an))) (.call 3 (.ac (.var 1) (.ac (.cst (.int 2)) .an)))))
def s_law18 : CS := (.set 7 (.tup (.ac (.var 6) (.ac (.tup (.ac (.cst (.str [120])) (.ac (.blt .tuple (.ac (.var 3) .an)) .an))) .an))))
def s_law19 : CS := (.set 8 (.call 3 (.ac (.var 1) (.ac (.bin .add (.blt .len (.ac (.var 3) .an)) (.cst (.int 1))) .an))))
def s_law20 : CS := (.set 9 (.bin .add (.slc false true (.var 3) .an (.var 8)) (.lc .rng1 (.ac (.call 3 (.ac (.var 1) (.ac (.cst (.int 4)) .an))) .an) (.one 13) [13] false .an e_law2)))
def s_law21 : CS := (.ret (.cst (.bl true)))
def c_law : CS :=
  (.seq s_law11
  (.seq s_law12
  (.seq s_law13
  (.seq s_law14
  (.seq s_law15
  (.seq s_law16
  (.seq s_law17
  (.seq s_law18
  (.seq s_law19
  (.seq s_law20
  (.seq l_law2
  (.seq s_law21
  .skip))))))))))))
def d_law : Def := ⟨1, 18, c_law⟩
def TT : List Def := [d_is_prefix, d_overlap, d_conflicts, d_law_next, d_law_same, d_law]
end Rf.K37

namespace Rf.K37
open PySem PySem.Spec PyProof.Rows L2
def sRead : Sg := [114, 101, 97, 100]
def sStore : Sg := [115, 116, 111, 114, 101]
def sShared : Sg := [115, 104, 97, 114, 101, 100]
def sExcl : Sg := [101, 120, 99, 108, 117, 115, 105, 118, 101]
def cD : Option Int → D
  | none => .non
  | some c => .int c
def cfl (w : Sg) (x : D) (s : List D) (md : Sg) (y : D) (t : List D) (c : Option Int) : Bool :=
  if (ip x s y t || ip y t x s) = true then (if w = sRead then decide (md = sExcl) else match c with
    | some c => if w = sStore ∧ ip x s y t = true then decide (c < s.length) else true
    | none => true) else false
theorem conf_ok {x y : D} {s t : List D} (hx : Ok1 x) (hy : Ok1 y) (hs : OkL s) (ht : OkL t) (w md : Sg) (c : Option Int) (k : Nat) (h : AH) : calls TT (k + 3) 2 [.tup [.str w, .tup [x, .tup s]], .tup [.str md, .tup [y, .tup t]], cD c] h = .ok (.bl (cfl w x s md y t c)) h := by
  rw [calls_ok (d := d_conflicts) rfl rfl]
  have c1 := fun h => over_ok (T := TT) (i := 0) (j := 1) rfl rfl hx hy hs ht k h
  have c2 := fun h => pre_ok (T := TT) (i := 0) rfl hx hy hs ht (k + 1) h
  show (exec (calls TT (k + 2)) c_conflicts [some (.tup [.str w, .tup [x, .tup s]]), some (.tup [.str md, .tup [y, .tup t]]), some (cD c), none] h).bind retF = _
  unfold cfl
  by_cases o : (ip x s y t || ip y t x s) = true
  · rw [if_pos o]
    rw [o] at c1
    by_cases r : w = sRead
    · rw [if_pos r]
      simp only [c_conflicts, s_conflicts0, s_conflicts1, s_conflicts2, s_conflicts3, s_conflicts4, exec, evT, ev, evs, Rs.bind_ok, List.getElem?_cons_zero, List.getElem?_cons_succ, List.set_cons_succ, List.set_cons_zero, idx_tup, at0, at1, ofO_s, c1, tr_bl, Bool.not_true, Bool.false_eq_true, if_false, ce_str]
      rw [show decide (w = [114, 101, 97, 100]) = true from decide_eq_true r]
      simp only [if_true, Rs.bind_ok, retF]
      rfl
    · rw [if_neg r]
      have rd : decide (w = [114, 101, 97, 100]) = false := decide_eq_false r
      cases c with
      | none =>
        by_cases z : w = sStore
        · have zd : decide (w = [115, 116, 111, 114, 101]) = true := decide_eq_true z
          simp only [c_conflicts, s_conflicts0, s_conflicts1, s_conflicts2, s_conflicts3, s_conflicts4, exec, evT, ev, evs, Rs.bind_ok, List.getElem?_cons_zero, List.getElem?_cons_succ, List.set_cons_succ, List.set_cons_zero, idx_tup, at0, at1, ofO_s, c1, tr_bl, Bool.not_true, Bool.false_eq_true, if_false, ce_str, rd, zd, cD, retF]
        · have zd : decide (w = [115, 116, 111, 114, 101]) = false := decide_eq_false z
          simp only [c_conflicts, s_conflicts0, s_conflicts1, s_conflicts2, s_conflicts3, s_conflicts4, exec, evT, ev, evs, Rs.bind_ok, List.getElem?_cons_zero, List.getElem?_cons_succ, List.set_cons_succ, List.set_cons_zero, idx_tup, at0, at1, ofO_s, c1, tr_bl, Bool.not_true, Bool.false_eq_true, if_false, ce_str, rd, zd, cD, retF]
      | some c =>
        by_cases z : w = sStore
        · have zd : decide (w = [115, 116, 111, 114, 101]) = true := decide_eq_true z
          simp only
          cases p : ip x s y t with
          | true =>
            rw [if_pos ⟨z, rfl⟩]
            simp only [c_conflicts, s_conflicts0, s_conflicts1, s_conflicts2, s_conflicts3, s_conflicts4, exec, evT, ev, evs, Rs.bind_ok, List.getElem?_cons_zero, List.getElem?_cons_succ, List.set_cons_succ, List.set_cons_zero, idx_tup, at0, at1, ofO_s, c1, tr_bl, Bool.not_true, Bool.not_false, Bool.false_eq_true, if_false, if_true, ce_str, rd, zd, cD, retF, c2, p, bt_len_tup, cl_int]
          | false =>
            rw [if_neg (by simp)]
            simp only [c_conflicts, s_conflicts0, s_conflicts1, s_conflicts2, s_conflicts3, s_conflicts4, exec, evT, ev, evs, Rs.bind_ok, List.getElem?_cons_zero, List.getElem?_cons_succ, List.set_cons_succ, List.set_cons_zero, idx_tup, at0, at1, ofO_s, c1, tr_bl, Bool.not_true, Bool.not_false, Bool.false_eq_true, if_false, if_true, ce_str, rd, zd, cD, retF, c2, p]
        · have zd : decide (w = [115, 116, 111, 114, 101]) = false := decide_eq_false z
          have zn : ¬ (w = sStore ∧ ip x s y t = true) := fun q => z q.1
          simp only [if_neg zn, c_conflicts, s_conflicts0, s_conflicts1, s_conflicts2, s_conflicts3, s_conflicts4, exec, evT, ev, evs, Rs.bind_ok, List.getElem?_cons_zero, List.getElem?_cons_succ, List.set_cons_succ, List.set_cons_zero, idx_tup, at0, at1, ofO_s, c1, tr_bl, Bool.not_true, Bool.false_eq_true, if_false, ce_str, rd, zd, cD, retF]
  · rw [if_neg o]
    have of : (ip x s y t || ip y t x s) = false := by cases q : (ip x s y t || ip y t x s) <;> simp_all
    simp only [c_conflicts, s_conflicts0, s_conflicts1, exec, evT, ev, evs, Rs.bind_ok, List.getElem?_cons_zero, List.getElem?_cons_succ, List.set_cons_succ, List.set_cons_zero, idx_tup, at0, at1, ofO_s, c1, of, tr_bl, Bool.not_false, if_true, retF]
/-! the plain law -/
def near (l s : List D) (n : Nat) : Bool := decide (l.take (min n s.length) = s.take (min n s.length))
def due (w md : Sg) (l s : List D) (c : Option Int) (n : Nat) : Bool :=
  near l s n && !(decide (w = sRead) && decide (md = sShared)) && !(decide (w = sStore) && match c with
    | some c => decide (n ≤ s.length) && decide ((n : Int) ≤ c)
    | none => false)
def vx : D := .str [120]
def vy : D := .str [121]
theorem ip_near {l s : List D} {n : Nat} (hn : n ≤ l.length) : (ip vx (l.take n) vx s || ip vx s vx (l.take n)) = near l s n ∧ (ip vx (l.take n) vx s = (near l s n && decide (n ≤ s.length))) := by
  have e1 : (l.take n).length = n := by rw [List.length_take]; omega
  have p1 : ip vx (l.take n) vx s = decide (l.take n = s.take n) := by simp [ip, e1]
  have p2 : ip vx s vx (l.take n) = decide (s = (l.take n).take s.length) := by simp [ip]
  by_cases h : n ≤ s.length
  · have m : min n s.length = n := by omega
    rw [p1, p2, near, m, decide_eq_true h, Bool.and_true]
    refine ⟨?_, rfl⟩
    by_cases q : l.take n = s.take n
    · rw [decide_eq_true q, Bool.true_or]
    · rw [decide_eq_false q, Bool.false_or]
      refine decide_eq_false fun z => q ?_
      have hl := congrArg List.length z
      rw [List.length_take, e1] at hl
      have hn2 : n = s.length := by omega
      rw [List.take_of_length_le (by omega)] at z
      rw [← z, hn2, List.take_length]
  · have m : min n s.length = s.length := by omega
    have p3 : (l.take n).take s.length = l.take s.length := by rw [List.take_take]; congr 1; omega
    rw [p1, p2, near, m, decide_eq_false h, Bool.and_false, List.take_length, p3]
    have q : ¬ (l.take n = s.take n) := fun z => by
      have := congrArg List.length z
      rw [List.length_take, List.length_take] at this
      omega
    rw [decide_eq_false q, Bool.false_or]
    refine ⟨?_, rfl⟩
    by_cases q : s = l.take s.length
    · rw [decide_eq_true q, decide_eq_true q.symm]
    · rw [decide_eq_false q, decide_eq_false fun z => q z.symm]
theorem cfl_due {w md : Sg} {l s : List D} {c : Option Int} {n : Nat} (hn : n ≤ l.length) (hm : md = sShared ∨ md = sExcl) : cfl w vx (l.take n) md vx s c = due w md l s c n := by
  have e1 : (l.take n).length = n := by rw [List.length_take]; omega
  obtain ⟨a, b⟩ := ip_near (s := s) hn
  unfold cfl due
  rw [a, b, e1]
  have ne : sExcl ≠ sShared := by decide
  have ne2 : ¬ (sRead = sStore) := by decide
  cases near l s n with
  | false => simp
  | true =>
    simp only [if_true, Bool.true_and]
    by_cases r : w = sRead
    · rw [if_pos r, r]
      rcases hm with e | e
      · subst e
        simp [ne2, Ne.symm ne]
      · subst e
        simp [ne2, ne]
    · rw [if_neg r]
      cases c with
      | none => simp [r]
      | some c =>
        by_cases z : w = sStore
        · by_cases g : n ≤ s.length
          · simp only [z, g, decide_true, and_self, if_true, Bool.true_and]
            by_cases q : c < (n : Int)
            · have q2 : ¬ ((n : Int) ≤ c) := by omega
              simp [q, q2, Ne.symm ne2]
            · have q2 : (n : Int) ≤ c := by omega
              simp [q, q2]
          · simp [z, g, Ne.symm ne2]
        · simp [z, r]
theorem cfl_y {w md : Sg} {l s : List D} {c : Option Int} : cfl w vy l md vx s c = false := by
  have : vy ≠ vx := by decide
  simp [cfl, ip, this, Ne.symm this]
theorem due_down {w md : Sg} {l s : List D} {c : Option Int} {n : Nat} (hw : w ≠ sStore) (h : due w md l s c (n + 1) = true) : due w md l s c n = true := by
  unfold due at h ⊢
  simp only [decide_eq_false hw, Bool.false_and, Bool.not_false, Bool.and_true, Bool.and_eq_true] at h ⊢
  refine ⟨?_, h.2⟩
  have h1 := of_decide_eq_true h.1
  refine decide_eq_true ?_
  have e := congrArg (List.take (min n s.length)) h1
  rw [List.take_take, List.take_take, show min (min n s.length) (min (n + 1) s.length) = min n s.length by omega] at e
  exact e
end Rf.K37

namespace Rf.K37
open PySem PySem.Spec PyProof.Rows L2
def ML : List D := [.int 0, .int 1, .str [97], .str [63], .str [94]]
theorem ml_ok : OkL ML := OkL.all fun d h => by
  simp only [ML, List.mem_cons, List.not_mem_nil, or_false] at h
  rcases h with rfl | rfl | rfl | rfl | rfl <;> exact ⟨by decide +kernel, by decide +kernel⟩
theorem ok_str (s : Sg) (h : PyData.strOk (S s) = true) : Ok1 (.str s) := ⟨by rw [okD]; exact h, by show 0 ≤ 50; omega⟩
theorem vx_ok : Ok1 vx := ok_str _ (by decide +kernel)
theorem vy_ok : Ok1 vy := ok_str _ (by decide +kernel)
def words : List Sg := [sRead, [119, 114, 105, 116, 101], [109, 111, 118, 101], sStore]
def MdOk (md : Sg) : Prop := md = sShared ∨ md = sExcl
abbrev EV (x0 x4 x8 : Option D) (m3 m9 : Nat) (s : List D) (md : Sg) (c : Option Int) (y10 y11 y12 y13 y14 y15 y16 y17 : Option D) : Env' :=
  [x0, some (.ref 1), some (.ref 2), some (.ref m3), x4, some (cD c), some (.str md), some (.tup [.str md, .tup [vx, .tup s]]), x8, some (.ref m9), y10, y11, y12, y13, y14, y15, y16, y17]
section
variable {x0 x4 x8 : Option D} {m3 m9 : Nat} {s l : List D} {md w : Sg} {c : Option Int} {y10 y11 y12 y13 y14 y15 y16 y17 : Option D} {h : AH} {i k m11 : Nat} {cal : Cal}
theorem st4 {b : Bool} : exec cal s_law4 (EV x0 x4 x8 m3 m9 s md c (some (.str w)) y11 y12 y13 y14 y15 y16 (some (.bl b))) h = .ok (.nx (EV x0 x4 x8 m3 m9 s md c (some (.str w)) y11 y12 y13 y14 y15 y16 (some (.bl (b && !(decide (w = sRead) && decide (md = sShared))))))) h := by
  simp only [s_law4, exec, evT, ev, Rs.bind_ok, List.getElem?_cons_zero, List.getElem?_cons_succ, ce_str, tr_bl]
  show _ = Rs.ok (Fl.nx (EV x0 x4 x8 m3 m9 s md c (some (.str w)) y11 y12 y13 y14 y15 y16 (some (.bl (b && !(decide (w = [114, 101, 97, 100]) && decide (md = [115, 104, 97, 114, 101, 100]))))))) h
  cases decide (w = [114, 101, 97, 100]) with
  | false => simp only [Rs.bind_ok, tr_bl, ofO_s, Bool.false_eq_true, if_false, Bool.false_and, Bool.not_false, Bool.and_true]
  | true =>
    simp only [Rs.bind_ok, tr_bl]
    cases decide (md = [115, 104, 97, 114, 101, 100]) with
    | false => simp only [Rs.bind_ok, tr_bl, ofO_s, Bool.false_eq_true, if_false, Bool.and_false, Bool.not_false, Bool.and_true]
    | true => simp only [Rs.bind_ok, tr_bl, ofO_s, if_true, Bool.and_self, Bool.not_true, Bool.and_false, List.set_cons_succ, List.set_cons_zero]
theorem st5 {b : Bool} (g3 : h[m3]? = some (.lst s)) : exec cal s_law5 (EV x0 x4 x8 m3 m9 s md c (some (.str w)) y11 (some (.int (i : Int))) y13 y14 y15 y16 (some (.bl b))) h = .ok (.nx (EV x0 x4 x8 m3 m9 s md c (some (.str w)) y11 (some (.int (i : Int))) y13 y14 y15 y16
    (some (.bl (b && !(decide (w = sStore) && match c with | some c => decide (i ≤ s.length) && decide ((i : Int) ≤ c) | none => false)))))) h := by
  simp only [s_law5, exec, evT, ev, evs, Rs.bind_ok, List.getElem?_cons_zero, List.getElem?_cons_succ, ce_str, tr_bl]
  have e : decide (w = sStore) = decide (w = [115, 116, 111, 114, 101]) := rfl
  rw [e]
  cases decide (w = [115, 116, 111, 114, 101]) with
  | false => simp only [Rs.bind_ok, tr_bl, ofO_s, Bool.false_eq_true, if_false, Bool.false_and, Bool.not_false, Bool.and_true]
  | true =>
    cases c with
    | none => simp only [cD, Rs.bind_ok, tr_bl, ofO_s, Bool.false_eq_true, if_false, Bool.true_and, Bool.not_false, Bool.not_true, Bool.and_true]
    | some c =>
      simp only [cD, Rs.bind_ok, tr_bl, bt_len_lst g3, cle_int]
      by_cases q : i ≤ s.length
      · have q' : (i : Int) ≤ (s.length : Int) := by omega
        simp only [decide_eq_true q, decide_eq_true q', Bool.true_and]
        cases decide ((i : Int) ≤ c) with
        | false => simp only [Rs.bind_ok, tr_bl, ofO_s, Bool.false_eq_true, if_false, Bool.not_false, Bool.and_true]
        | true => simp only [Rs.bind_ok, tr_bl, ofO_s, if_true, Bool.not_true, Bool.and_false, List.set_cons_succ, List.set_cons_zero]
      · have q' : ¬ ((i : Int) ≤ (s.length : Int)) := by omega
        simp only [decide_eq_false q, decide_eq_false q', Bool.false_and, Bool.and_false, Rs.bind_ok, tr_bl, ofO_s, Bool.false_eq_true, if_false, Bool.not_false, Bool.and_true]
theorem b0_ok (hs : OkL s) (hl : OkL l) (hi : i ≤ l.length) (hl2 : l.length ≤ 1000) (hm : MdOk md) (g3 : h[m3]? = some (.lst s)) (g9 : h[m9]? = some (.lst l)) (h3 : m3 < m11) (h9 : m9 < m11) {ds : List D} (g11 : h[m11]? = some (.lst ds)) (ld : ds.length ≤ 10000) :
    ∃ z14 z15 z16 z17 h', exec (calls TT (k + 3)) b_law0 (EV x0 x4 x8 m3 m9 s md c (some (.str w)) (some (.ref m11)) (some (.int (i : Int))) y13 y14 y15 y16 y17) h = .ok (.nx (EV x0 x4 x8 m3 m9 s md c (some (.str w)) (some (.ref m11)) (some (.int (i : Int))) y13 z14 z15 z16 z17)) h' ∧
      Fx m11 h h' ∧ h'[m11]? = some (.lst (ds ++ [.bl (due w md l s c i)])) := by
  have n11 : m11 < h.length := (List.getElem?_eq_some_iff.mp g11).1
  obtain ⟨h1, eh1⟩ : ∃ h1, h1 = h ++ [Ob.lst (l.take i)] := ⟨_, rfl⟩
  obtain ⟨h2, eh2⟩ : ∃ h2, h2 = h1 ++ [Ob.lst (l.take (min i s.length))] := ⟨_, rfl⟩
  obtain ⟨h3', eh3⟩ : ∃ h3, h3 = h2 ++ [Ob.lst (s.take (min i s.length))] := ⟨_, rfl⟩
  have x1 : Ex h h1 := by rw [eh1]; exact Ex.app
  have x2 : Ex h1 h2 := by rw [eh2]; exact Ex.app
  have x3 : Ex h2 h3' := by rw [eh3]; exact Ex.app
  have new1 : h1[h.length]? = some (.lst (l.take i)) := by rw [eh1]; exact app_new
  have new2 : h2[h1.length]? = some (.lst (l.take (min i s.length))) := by rw [eh2]; exact app_new
  have new3 : h3'[h2.length]? = some (.lst (s.take (min i s.length))) := by rw [eh3]; exact app_new
  have hmin : bltD .min2 [.int (i : Int), .int (s.length : Int)] h1 = .ok (.int ((min i s.length : Nat) : Int)) h1 := by
    show Rs.ok (D.int (if _ < _ then _ else _)) h1 = _
    by_cases q : (s.length : Int) < (i : Int)
    · rw [if_pos q, show min i s.length = s.length by omega]
    · rw [if_neg q, show min i s.length = i by omega]
  have a1 : slcD (.ref m9) none (some (i : Int)) h = .ok (.ref h.length) h1 := by rw [sl_lst g9, cut_len, eh1]
  have a2 : slcD (.ref m9) none (some ((min i s.length : Nat) : Int)) h1 = .ok (.ref h1.length) h2 := by rw [sl_lst (x1 _ _ g9), cut_len, eh2]
  have a3 : slcD (.ref m3) none (some ((min i s.length : Nat) : Int)) h2 = .ok (.ref h2.length) h3' := by rw [sl_lst (x2 _ _ (x1 _ _ g3)), cut_len, eh3]
  have a4 : cmpD .eq (.ref h1.length) (.ref h2.length) h3' = .ok (.bl (near l s i)) h3' := ce_lst (x3 _ _ new2) new3 (hl.take _) (hs.take _)
  have g3' := x3 _ _ (x2 _ _ (x1 _ _ g3))
  have g9' := x3 _ _ (x2 _ _ (x1 _ _ g9))
  have g11' := x3 _ _ (x2 _ _ (x1 _ _ g11))
  have cf := conf_ok vx_ok vx_ok (hl.take i) hs w md c k h3'
  rw [cfl_due hi hm] at cf
  have sm := same_bl (T := TT) (i := 4) rfl (k + 2) (h := h3') (due w md l s c i) (due w md l s c i)
  rw [decide_eq_true rfl] at sm
  have hlim : ds.length < lim := by show _ < 16777216; omega
  refine ⟨some (.tup [vx, .tup (l.take i)]), some (.int ((min i s.length : Nat) : Int)), some (.bl (near l s i)), some (.bl (due w md l s c i)), h3'.set m11 (.lst (ds ++ [.bl (due w md l s c i)])), ?_, ?_, ?_⟩
  · have p0 : exec (calls TT (k + 3)) s_law0 (EV x0 x4 x8 m3 m9 s md c (some (.str w)) (some (.ref m11)) (some (.int (i : Int))) y13 y14 y15 y16 y17) h = .ok (.nx (EV x0 x4 x8 m3 m9 s md c (some (.str w)) (some (.ref m11)) (some (.int (i : Int))) y13 (some (.tup [vx, .tup (l.take i)])) y15 y16 y17)) h1 := by
      simp only [s_law0, exec, ev, evs, Rs.bind_ok, List.getElem?_cons_zero, List.getElem?_cons_succ, Bool.false_eq_true, if_false, if_true, a1, bt_tuple_lst new1, List.set_cons_succ, List.set_cons_zero]
      rfl
    have p1 : ∀ z14, exec (calls TT (k + 3)) s_law1 (EV x0 x4 x8 m3 m9 s md c (some (.str w)) (some (.ref m11)) (some (.int (i : Int))) y13 z14 y15 y16 y17) h1 = .ok (.nx (EV x0 x4 x8 m3 m9 s md c (some (.str w)) (some (.ref m11)) (some (.int (i : Int))) y13 z14 (some (.int ((min i s.length : Nat) : Int))) y16 y17)) h1 := fun z14 => by
      simp only [s_law1, exec, ev, evs, Rs.bind_ok, List.getElem?_cons_zero, List.getElem?_cons_succ, bt_len_lst (x1 _ _ g3), hmin, List.set_cons_succ, List.set_cons_zero]
    have p2 : ∀ z14, exec (calls TT (k + 3)) s_law2 (EV x0 x4 x8 m3 m9 s md c (some (.str w)) (some (.ref m11)) (some (.int (i : Int))) y13 z14 (some (.int ((min i s.length : Nat) : Int))) y16 y17) h1 = .ok (.nx (EV x0 x4 x8 m3 m9 s md c (some (.str w)) (some (.ref m11)) (some (.int (i : Int))) y13 z14 (some (.int ((min i s.length : Nat) : Int))) (some (.bl (near l s i))) y17)) h3' := fun z14 => by
      simp only [s_law2, exec, ev, evs, Rs.bind_ok, List.getElem?_cons_zero, List.getElem?_cons_succ, Bool.false_eq_true, if_false, if_true, a2, a3, a4, List.set_cons_succ, List.set_cons_zero]
    have p3 : ∀ z14 z15, exec (calls TT (k + 3)) s_law3 (EV x0 x4 x8 m3 m9 s md c (some (.str w)) (some (.ref m11)) (some (.int (i : Int))) y13 z14 z15 (some (.bl (near l s i))) y17) h3' = .ok (.nx (EV x0 x4 x8 m3 m9 s md c (some (.str w)) (some (.ref m11)) (some (.int (i : Int))) y13 z14 z15 (some (.bl (near l s i))) (some (.bl (near l s i))))) h3' := fun z14 z15 => by
      simp only [s_law3, exec, ev, Rs.bind_ok, List.getElem?_cons_zero, List.getElem?_cons_succ, List.set_cons_succ, List.set_cons_zero]
    have p5 : ∀ z14 z15 z16, exec (calls TT (k + 3)) s_law5 (EV x0 x4 x8 m3 m9 s md c (some (.str w)) (some (.ref m11)) (some (.int (i : Int))) y13 z14 z15 z16 (some (.bl (near l s i && !(decide (w = sRead) && decide (md = sShared)))))) h3' = .ok (.nx (EV x0 x4 x8 m3 m9 s md c (some (.str w)) (some (.ref m11)) (some (.int (i : Int))) y13 z14 z15 z16 (some (.bl (due w md l s c i))))) h3' := fun z14 z15 z16 => st5 g3'
    have p6 : ∀ z15 z16, exec (calls TT (k + 3)) s_law6 (EV x0 x4 x8 m3 m9 s md c (some (.str w)) (some (.ref m11)) (some (.int (i : Int))) y13 (some (.tup [vx, .tup (l.take i)])) z15 z16 (some (.bl (due w md l s c i)))) h3' = .ok (.nx (EV x0 x4 x8 m3 m9 s md c (some (.str w)) (some (.ref m11)) (some (.int (i : Int))) y13 (some (.tup [vx, .tup (l.take i)])) z15 z16 (some (.bl (due w md l s c i))))) h3' := fun z15 z16 => by
      simp only [s_law6, exec, evT, ev, evs, Rs.bind_ok, List.getElem?_cons_zero, List.getElem?_cons_succ, cf, sm, tr_bl, ofO_s, Bool.not_true, Bool.false_eq_true, if_false]
    have p7 : ∀ z14 z15 z16, exec (calls TT (k + 3)) s_law7 (EV x0 x4 x8 m3 m9 s md c (some (.str w)) (some (.ref m11)) (some (.int (i : Int))) y13 z14 z15 z16 (some (.bl (due w md l s c i)))) h3' = .ok (.nx (EV x0 x4 x8 m3 m9 s md c (some (.str w)) (some (.ref m11)) (some (.int (i : Int))) y13 z14 z15 z16 (some (.bl (due w md l s c i))))) (h3'.set m11 (.lst (ds ++ [.bl (due w md l s c i)]))) := fun z14 z15 z16 => by
      simp only [s_law7, exec, ev, evs, Rs.bind_ok, List.getElem?_cons_zero, List.getElem?_cons_succ, mty_app g11', mt_app g11' hlim, if_true]
    simp only [b_law0, exec]
    rw [p0]
    simp only [Rs.bind_ok]
    rw [p1]
    simp only [Rs.bind_ok]
    rw [p2]
    simp only [Rs.bind_ok]
    rw [p3]
    simp only [Rs.bind_ok]
    rw [st4]
    simp only [Rs.bind_ok]
    rw [p5]
    simp only [Rs.bind_ok]
    rw [p6]
    simp only [Rs.bind_ok]
    rw [p7]
    simp only [Rs.bind_ok]
  · refine ⟨by rw [eh3, eh2, eh1]; simp, fun n hn ne => (set_out ne).trans ?_⟩
    rw [eh3, eh2, eh1, List.getElem?_append_left (by simp; omega), List.getElem?_append_left (by simp; omega), List.getElem?_append_left hn]
  · exact set_at (Nat.lt_of_lt_of_le n11 (by rw [eh3, eh2, eh1]; simp))
theorem l0_ok (hs : OkL s) (hl : OkL l) (hl2 : l.length ≤ 1000) (hm : MdOk md) (g3 : h[m3]? = some (.lst s)) (g9 : h[m9]? = some (.lst l)) (h3 : m3 < m11) (h9 : m9 < m11) (g11 : h[m11]? = some (.lst [])) :
    ∃ z12 z14 z15 z16 z17 h', exec (calls TT (k + 3)) l_law0 (EV x0 x4 x8 m3 m9 s md c (some (.str w)) (some (.ref m11)) y12 y13 y14 y15 y16 y17) h = .ok (.nx (EV x0 x4 x8 m3 m9 s md c (some (.str w)) (some (.ref m11)) z12 y13 z14 z15 z16 z17)) h' ∧
      Fx m11 h h' ∧ h'[m11]? = some (.lst ((List.range (l.length + 1)).map fun n => .bl (due w md l s c n))) := by
  have e : ((l.length : Int) + 1) = ((l.length + 1 : Nat) : Int) := by omega
  have hb : l.length + 1 ≤ 1000000 := by omega
  have := forR_ix (n := l.length + 1) (I := fun i e h' => (∃ z12 z14 z15 z16 z17, e = EV x0 x4 x8 m3 m9 s md c (some (.str w)) (some (.ref m11)) z12 y13 z14 z15 z16 z17) ∧ Fx m11 h h' ∧ h'[m11]? = some (.lst ((List.range i).map fun n => .bl (due w md l s c n))))
    (body := fun d e1 h2 => match bindT (.one 12) d e1 h2 with | none => .no | some e2 => exec (calls TT (k + 3)) b_law0 e2 h2)
    (e := EV x0 x4 x8 m3 m9 s md c (some (.str w)) (some (.ref m11)) y12 y13 y14 y15 y16 y17) (h := h) ⟨⟨_, _, _, _, _, rfl⟩, Fx.refl, g11⟩ ?_
  · obtain ⟨f, h', p1, e1, rfl, ⟨z12, z14, z15, z16, z17, rfl⟩, p2, p3⟩ := this
    refine ⟨z12, z14, z15, z16, z17, h', ?_, p2, p3⟩
    simp only [l_law0, exec, evs, ev, Rs.bind_ok, List.getElem?_cons_zero, List.getElem?_cons_succ, bt_len_lst g9, b_add, e, src_len hb]
    exact p1
  · intro i hi e1 h1 ⟨⟨z12, z14, z15, z16, z17, he⟩, q2, q3⟩
    subst he
    obtain ⟨t14, t15, t16, t17, h', r1, r2, r3⟩ := b0_ok (x0 := x0) (x4 := x4) (x8 := x8) (w := w) (c := c) (k := k) (i := i) (y13 := y13) (y14 := z14) (y15 := z15) (y16 := z16) (y17 := z17) hs hl (by omega) hl2 hm (q2.at g3 (by omega)) (q2.at g9 (by omega)) h3 h9 q3 (by simp; omega)
    refine Post.eq (a := Fl.nx _) (h := h') r1 (show _ ∧ _ ∧ _ from ⟨⟨_, _, _, _, _, rfl⟩, q2.trans r2, ?_⟩)
    rw [r3, List.range_succ, List.map_append]
    rfl
theorem b1_ok (hs : OkL s) (hl : OkL l) (hi : i < l.length) (hm : MdOk md) (hw : w ≠ sStore) (g9 : h[m9]? = some (.lst l)) (g11 : h[m11]? = some (.lst ((List.range (l.length + 1)).map fun n => .bl (due w md l s c n)))) :
    ∃ h', exec (calls TT (k + 3)) b_law1 (EV x0 x4 x8 m3 m9 s md c (some (.str w)) (some (.ref m11)) (some (.int (i : Int))) y13 y14 y15 y16 y17) h = .ok (.nx (EV x0 x4 x8 m3 m9 s md c (some (.str w)) (some (.ref m11)) (some (.int (i : Int))) y13 y14 y15 y16 y17)) h' ∧ Fx m11 h h' ∧ h'[m11]? = h[m11]? := by
  have e : ((i : Int) + 1) = ((i + 1 : Nat) : Int) := by omega
  have hat : atD ((List.range (l.length + 1)).map fun n => D.bl (due w md l s c n)) ((i + 1 : Nat) : Int) = some (.bl (due w md l s c (i + 1))) := by
    rw [at_nat (by omega), Int.toNat_natCast, List.getElem?_map, List.getElem?_range (by omega)]
    rfl
  have hlt : m11 < h.length := (List.getElem?_eq_some_iff.mp g11).1
  cases q : due w md l s c (i + 1) with
  | false =>
    rw [q] at hat
    refine ⟨h, ?_, Fx.refl, rfl⟩
    simp only [b_law1, exec, evT, ev, evs, Rs.bind_ok, List.getElem?_cons_zero, List.getElem?_cons_succ, b_add, e, idx_lst g11, hat, ofO_s, tr_bl, Bool.false_eq_true, if_false]
  | true =>
    rw [q] at hat
    have a1 : slcD (.ref m9) none (some (i : Int)) h = .ok (.ref h.length) (h ++ [.lst (l.take i)]) := by rw [sl_lst g9, cut_len]
    have cf := conf_ok vx_ok vx_ok (hl.take i) hs w md c k (h ++ [.lst (l.take i)])
    rw [cfl_due (by omega) hm, due_down hw q, vx] at cf
    refine ⟨h ++ [.lst (l.take i)], ?_, Fx.app, List.getElem?_append_left hlt⟩
    simp only [b_law1, exec, evT, ev, evs, Rs.bind_ok, List.getElem?_cons_zero, List.getElem?_cons_succ, b_add, e, idx_lst g11, hat, ofO_s, tr_bl, Bool.false_eq_true, if_false, if_true, a1, bt_tuple_lst app_new, vx, cf, Bool.not_true]
theorem l1_ok (hs : OkL s) (hl : OkL l) (hl2 : l.length ≤ 1000) (hm : MdOk md) (hw : w ≠ sStore) (h9 : m9 < m11) (g9 : h[m9]? = some (.lst l)) (g11 : h[m11]? = some (.lst ((List.range (l.length + 1)).map fun n => .bl (due w md l s c n)))) :
    ∃ z12 h', exec (calls TT (k + 3)) l_law1 (EV x0 x4 x8 m3 m9 s md c (some (.str w)) (some (.ref m11)) y12 y13 y14 y15 y16 y17) h = .ok (.nx (EV x0 x4 x8 m3 m9 s md c (some (.str w)) (some (.ref m11)) z12 y13 y14 y15 y16 y17)) h' ∧ Fx m11 h h' := by
  have hb : l.length ≤ 1000000 := by omega
  have := forR_ix (n := l.length) (I := fun i e h' => (∃ z12, e = EV x0 x4 x8 m3 m9 s md c (some (.str w)) (some (.ref m11)) z12 y13 y14 y15 y16 y17) ∧ Fx m11 h h' ∧ h'[m11]? = h[m11]?)
    (body := fun d e1 h2 => match bindT (.one 12) d e1 h2 with | none => .no | some e2 => exec (calls TT (k + 3)) b_law1 e2 h2)
    (e := EV x0 x4 x8 m3 m9 s md c (some (.str w)) (some (.ref m11)) y12 y13 y14 y15 y16 y17) (h := h) ⟨⟨_, rfl⟩, Fx.refl, rfl⟩ ?_
  · obtain ⟨f, h', p1, e1, rfl, ⟨z12, rfl⟩, p2, p3⟩ := this
    refine ⟨z12, h', ?_, p2⟩
    simp only [l_law1, exec, evs, ev, Rs.bind_ok, List.getElem?_cons_zero, List.getElem?_cons_succ, bt_len_lst g9, src_len hb]
    exact p1
  · intro i hi e1 h1 ⟨⟨z12, he⟩, q2, q3⟩
    subst he
    obtain ⟨h', r1, r2, r3⟩ := b1_ok (x0 := x0) (x4 := x4) (x8 := x8) (m3 := m3) (k := k) (y13 := y13) (y14 := y14) (y15 := y15) (y16 := y16) (y17 := y17) hs hl hi hm hw (q2.at g9 (by omega)) (q3.trans g11)
    exact Post.eq (a := Fl.nx _) (h := h') r1 (show _ ∧ _ ∧ _ from ⟨⟨_, rfl⟩, q2.trans r2, r3.trans q3⟩)
theorem b2_ok (hs : OkL s) (hl : OkL l) (hl2 : l.length ≤ 1000) (hm : MdOk md) (g3 : h[m3]? = some (.lst s)) (g9 : h[m9]? = some (.lst l)) :
    ∃ z11 z12 z14 z15 z16 z17 h', exec (calls TT (k + 3)) b_law2 (EV x0 x4 x8 m3 m9 s md c (some (.str w)) y11 y12 y13 y14 y15 y16 y17) h = .ok (.nx (EV x0 x4 x8 m3 m9 s md c (some (.str w)) z11 z12 y13 z14 z15 z16 z17)) h' ∧ Ex h h' := by
  have n3 : m3 < h.length := (List.getElem?_eq_some_iff.mp g3).1
  have n9 : m9 < h.length := (List.getElem?_eq_some_iff.mp g9).1
  obtain ⟨z12, z14, z15, z16, z17, h1, p1, p2, p3⟩ := l0_ok (x0 := x0) (x4 := x4) (x8 := x8) (w := w) (c := c) (k := k) (y12 := y12) (y13 := y13) (y14 := y14) (y15 := y15) (y16 := y16) (y17 := y17) (h := h ++ [.lst []]) hs hl hl2 hm (app_old g3) (app_old g9) n3 n9 app_new
  have f1 : ∀ {n : Nat} {o : Ob}, h[n]? = some o → h1[n]? = some o := fun {n o} e => p2.at (app_old e) (by have := (List.getElem?_eq_some_iff.mp e).1; omega)
  have step9 : ∃ t12 h2, exec (calls TT (k + 3)) s_law9 (EV x0 x4 x8 m3 m9 s md c (some (.str w)) (some (.ref h.length)) z12 y13 z14 z15 z16 z17) h1 = .ok (.nx (EV x0 x4 x8 m3 m9 s md c (some (.str w)) (some (.ref h.length)) t12 y13 z14 z15 z16 z17)) h2 ∧ Fx h.length h1 h2 := by
    by_cases hw : w = sStore
    · refine ⟨z12, h1, ?_, Fx.refl⟩
      have hd : decide (w = [115, 116, 111, 114, 101]) = true := decide_eq_true hw
      simp only [s_law9, exec, evT, ev, Rs.bind_ok, List.getElem?_cons_zero, List.getElem?_cons_succ, cn_str, hd, tr_bl, ofO_s, Bool.not_true, Bool.false_eq_true, if_false]
    · obtain ⟨t12, h2, r1, r2⟩ := l1_ok (x0 := x0) (x4 := x4) (x8 := x8) (m3 := m3) (k := k) (y12 := z12) (y13 := y13) (y14 := z14) (y15 := z15) (y16 := z16) (y17 := z17) hs hl hl2 hm hw n9 (f1 g9) p3
      refine ⟨t12, h2, ?_, r2⟩
      have hd : decide (w = [115, 116, 111, 114, 101]) = false := decide_eq_false hw
      simp only [s_law9, exec, evT, ev, Rs.bind_ok, List.getElem?_cons_zero, List.getElem?_cons_succ, cn_str, hd, tr_bl, ofO_s, Bool.not_false, if_true, r1]
  obtain ⟨t12, h2, r1, r2⟩ := step9
  have f2 : ∀ {n : Nat} {o : Ob}, h[n]? = some o → h2[n]? = some o := fun {n o} e => r2.at (f1 e) (by have := (List.getElem?_eq_some_iff.mp e).1; omega)
  have cf := conf_ok vy_ok vx_ok hl hs w md c k h2
  rw [cfl_y, vy] at cf
  refine ⟨some (.ref h.length), t12, z14, z15, z16, z17, h2, ?_, fun n o e => f2 e⟩
  have p8 : exec (calls TT (k + 3)) s_law8 (EV x0 x4 x8 m3 m9 s md c (some (.str w)) y11 y12 y13 y14 y15 y16 y17) h = .ok (.nx (EV x0 x4 x8 m3 m9 s md c (some (.str w)) (some (.ref h.length)) y12 y13 y14 y15 y16 y17)) (h ++ [.lst []]) := by
    simp only [s_law8, exec, ev, evs, Rs.bind_ok, al_eq, List.set_cons_succ, List.set_cons_zero]
  have p10 : exec (calls TT (k + 3)) s_law10 (EV x0 x4 x8 m3 m9 s md c (some (.str w)) (some (.ref h.length)) t12 y13 z14 z15 z16 z17) h2 = .ok (.nx (EV x0 x4 x8 m3 m9 s md c (some (.str w)) (some (.ref h.length)) t12 y13 z14 z15 z16 z17)) h2 := by
    simp only [s_law10, exec, evT, ev, evs, Rs.bind_ok, List.getElem?_cons_zero, List.getElem?_cons_succ, bt_tuple_lst (f2 g9), cf, tr_bl, ofO_s, Bool.false_eq_true, if_false]
  simp only [b_law2, exec]
  rw [p8]
  simp only [Rs.bind_ok]
  rw [p1]
  simp only [Rs.bind_ok]
  rw [r1]
  simp only [Rs.bind_ok]
  rw [p10]
  simp only [Rs.bind_ok]
theorem l2_ok (hs : OkL s) (hl : OkL l) (hl2 : l.length ≤ 1000) (hm : MdOk md) (g3 : h[m3]? = some (.lst s)) (g9 : h[m9]? = some (.lst l)) :
    ∃ e' h', exec (calls TT (k + 3)) l_law2 (EV x0 x4 x8 m3 m9 s md c y10 y11 y12 y13 y14 y15 y16 y17) h = .ok (.nx e') h' := by
  have n3 : m3 < h.length := (List.getElem?_eq_some_iff.mp g3).1
  have n9 : m9 < h.length := (List.getElem?_eq_some_iff.mp g9).1
  have gw : (h ++ [Ob.lst (words.map D.str)])[h.length]? = some (.lst (words.map D.str)) := app_new
  have := forN_ok (n := h.length) (ds := words.map D.str) (I := fun e h' => (∃ y10 y11 y12 y13 y14 y15 y16 y17, e = EV x0 x4 x8 m3 m9 s md c y10 y11 y12 y13 y14 y15 y16 y17) ∧ Ex (h ++ [Ob.lst (words.map D.str)]) h')
    (body := fun d e1 h2 => match bindT (.one 10) d e1 h2 with | none => .no | some e2 => exec (calls TT (k + 3)) b_law2 e2 h2) (fun e h' q => getL_of (q.2 _ _ gw)) ?_ 4 0 (e := EV x0 x4 x8 m3 m9 s md c y10 y11 y12 y13 y14 y15 y16 y17) rfl ⟨⟨_, _, _, _, _, _, _, _, rfl⟩, Ex.refl⟩
  · obtain ⟨f, h', p1, e1, rfl, _⟩ := this
    refine ⟨e1, h', ?_⟩
    have gw' : (h ++ [Ob.lst [D.str [114, 101, 97, 100], .str [119, 114, 105, 116, 101], .str [109, 111, 118, 101], .str [115, 116, 111, 114, 101]]])[h.length]? = some (.lst (words.map D.str)) := gw
    simp only [l_law2, exec, evs, ev, Rs.bind_ok, al_eq, src_lst' gw']
    exact p1
  · intro d hd e1 h1 ⟨⟨z10, z11, z12, z13, z14, z15, z16, z17, he⟩, x⟩
    subst he
    obtain ⟨w, _, rfl⟩ := List.mem_map.mp hd
    obtain ⟨t11, t12, t14, t15, t16, t17, h', r1, r2⟩ := b2_ok (x0 := x0) (x4 := x4) (x8 := x8) (w := w) (c := c) (k := k) (y11 := z11) (y12 := z12) (y13 := z13) (y14 := z14) (y15 := z15) (y16 := z16) (y17 := z17) hs hl hl2 hm (x _ _ (app_old g3)) (x _ _ (app_old g9))
    exact Post.eq (a := Fl.nx _) (h := h') r1 (show _ ∧ _ from ⟨⟨_, _, _, _, _, _, _, _, rfl⟩, x.trans r2⟩)
end
end Rf.K37

namespace Rf.K37
open PySem PySem.Spec PyProof.Rows L2
abbrev E0 (x0 y3 y4 y5 y6 y7 y8 y9 : Option D) : Env' := [x0, some (.ref 1), some (.ref 2), y3, y4, y5, y6, y7, y8, y9, none, none, none, none, none, none, none, none]
theorem e0_en {x0 y3 y4 y5 y6 y7 y8 y9 : Option D} : En 18 (E0 x0 y3 y4 y5 y6 y7 y8 y9) := ⟨rfl, rfl, rfl⟩
section
variable {x0 y3 y4 y5 y6 y7 y8 y9 : Option D} {h : AH} {k m3 m4 : Nat} {s : List D}
theorem ml_mem {s : List D} (hs : ∀ d, d ∈ s → d ∈ ML) : OkL s := OkL.all fun d m => ml_ok.mem d (hs d m)
theorem p13 (j : J ML h) : ∃ m s h', exec (calls TT (k + 1)) s_law13 (E0 x0 none none none none none none none) h = .ok (.nx (E0 x0 (some (.ref m)) none none none none none none)) h' ∧ 2 < m ∧ h'[m]? = some (.lst s) ∧ OkL s ∧ s.length < 9 ∧ J ML h' := by
  obtain ⟨d, h', q, m, acc, rfl, a1, a2, a3, a4, a5, a6⟩ := dl_ok (T := TT) (nx := 3) rfl k (L := 18) (slot := 13) (by decide) (b := 5) (c := 9) (by decide) (by decide) (by decide) (by decide) (by decide) (e0_en (x0 := x0) (y3 := none) (y4 := none) (y5 := none) (y6 := none) (y7 := none) (y8 := none) (y9 := none)) j
  have := j.lt
  refine ⟨m, acc, h', ?_, by omega, a2, ml_mem a3, by omega, a5⟩
  have q' : ev (calls TT (k + 1)) (.lc .rng1 (.ac (.call 3 (.ac (.var 1) (.ac (.cst (.int 9)) .an))) .an) (.one 13) [13] false .an e_law0) (E0 x0 none none none none none none none) h = .ok (.ref m) h' := q
  simp only [s_law13, exec, q', Rs.bind_ok, List.set_cons_succ, List.set_cons_zero]
/-- the places of the carets -/
def Cs (ds : List D) : Prop := ∀ d, d ∈ ds → ∃ c : Int, d = .int c
theorem Cs.ok {ds : List D} (c : Cs ds) : OkL ds := OkL.all fun d m => by
  obtain ⟨i, rfl⟩ := c d m
  exact ⟨rfl, by show 0 ≤ 49; omega⟩
theorem p14 (j : J ML h) (g3 : h[m3]? = some (.lst s)) (h3 : 2 < m3) (hs : OkL s) (hl : s.length < 9) : ∃ m cs h', exec (calls TT (k + 1)) s_law14 (E0 x0 (some (.ref m3)) none none none none none none) h = .ok (.nx (E0 x0 (some (.ref m3)) (some (.ref m)) none none none none none)) h' ∧ h'[m3]? = some (.lst s) ∧ 2 < m ∧ h'[m]? = some (.lst cs) ∧ Cs cs ∧ cs.length < 10 ∧ J ML h' := by
  have n3 : m3 < h.length := (List.getElem?_eq_some_iff.mp g3).1
  have hb : s.length ≤ 1000000 := by omega
  have := lcD_if (m := h.length) (step := lcStep (.one 13) [13] (fun e2 h3 => (ev (calls TT (k + 1)) t_law0 e2 h3).bind fun x h4 => ofO (truD h4 x) h4) (fun e2 h3 => ev (calls TT (k + 1)) e_law1 e2 h3) (E0 x0 (some (.ref m3)) none none none none none none))
    (I := fun acc h' => h'[h.length]? = some (.lst acc) ∧ h'[m3]? = some (.lst s) ∧ Cs acc ∧ J ML h' ∧ h.length < h'.length) (fun acc h' i => getL_of i.1) (ds := rangeD 0 0 s.length) (acc := []) (h := h ++ [.lst []]) (by rw [range_len]; show 0 + s.length ≤ 16777216; omega) ⟨app_new, app_old g3, fun d m => absurd m (List.not_mem_nil), j.app, by simp⟩ ?_
  · obtain ⟨d, h', p1, rfl, cs, ⟨i1, i2, i3, i4, _⟩, i5⟩ := this
    refine ⟨h.length, cs, h', ?_, i2, by omega, i1, i3, by rw [range_len] at i5; simp only [List.length_nil] at i5; omega, i4⟩
    simp only [s_law14, exec, ev, evs, Rs.bind_ok, List.getElem?_cons_zero, List.getElem?_cons_succ, bt_len_lst g3, src_len hb, if_true]
    rw [p1]
    simp only [Rs.bind_ok, List.set_cons_succ, List.set_cons_zero]
  · intro d hd acc h' ⟨i1, i2, i3, i4, i5⟩
    obtain ⟨i, rfl, _, hi⟩ := range_mem hd
    have hi' : i < s.length := by omega
    have hat : atD s (0 + (i : Int)) = some s[i] := by
      rw [at_nat (by omega), show (0 + (i : Int)).toNat = i by omega]
      exact List.getElem?_eq_getElem hi'
    have hm := hs.mem _ (List.getElem_mem hi')
    have ce : cmpD .eq s[i] (.str [94]) h' = .ok (.bl (decide (s[i] = .str [94]))) h' := ce1 ⟨hm.1, by omega⟩ (ok_str _ (by decide +kernel))
    have t : ev (calls TT (k + 1)) t_law0 [x0, some (.ref 1), some (.ref 2), some (.ref m3), none, none, none, none, none, none, none, none, none, some (.int (0 + (i : Int))), none, none, none, none] h' = .ok (.bl (decide (s[i] = .str [94]))) h' := by
      simp only [t_law0, ev, Rs.bind_ok, List.getElem?_cons_zero, List.getElem?_cons_succ, idx_lst i2, hat, ofO_s, ce]
    by_cases q : s[i] = .str [94]
    · rw [decide_eq_true q] at t
      refine Post.eq (a := some (.int (0 + (i : Int)))) (h := h') ?_ ⟨getL_of i1, set_at (by omega), (set_out (by omega)).trans i2, fun y hy => ?_, i4.set (by have := j.lt; omega), by rw [List.length_set]; exact i5⟩
      · simp only [lcStep, bindT, wipeE, List.set_cons_succ, List.set_cons_zero, t, Rs.bind_ok, tr_bl, ofO_s, e_law1, ev, List.getElem?_cons_zero, List.getElem?_cons_succ]
      · rcases List.mem_append.mp hy with hy | hy
        · exact i3 y hy
        · exact ⟨_, List.mem_singleton.mp hy⟩
    · rw [decide_eq_false q] at t
      refine Post.eq (a := none) (h := h') ?_ ⟨i1, i2, i3, i4, i5⟩
      simp only [lcStep, bindT, wipeE, List.set_cons_succ, List.set_cons_zero, t, Rs.bind_ok, tr_bl, ofO_s]
theorem p16 {cs : List D} (j : J ML h) (g3 : h[m3]? = some (.lst s)) (h3 : 2 < m3) (g4 : h[m4]? = some (.lst cs)) (h4 : 2 < m4) (hc : Cs cs) (lc : cs.length < 10) :
    ∃ c h', exec (calls TT (k + 1)) s_law16 (E0 x0 (some (.ref m3)) (some (.ref m4)) (some .non) none none none none) h = .ok (.nx (E0 x0 (some (.ref m3)) (some (.ref m4)) (some (cD c)) none none none none)) h' ∧ h'[m3]? = some (.lst s) ∧ J ML h' := by
  have ce : cmpD .ne (.ref m4) (.ref h.length) (h ++ [.lst []]) = .ok (.bl (!decide (cs = []))) (h ++ [.lst []]) := cn_lst (app_old g4) app_new hc.ok OkL.nil
  by_cases e : cs = []
  · rw [decide_eq_true e] at ce
    refine ⟨none, h ++ [.lst []], ?_, app_old g3, j.app⟩
    simp only [s_law16, exec, evT, ev, evs, Rs.bind_ok, List.getElem?_cons_zero, List.getElem?_cons_succ, al_eq, ce, Bool.not_true, tr_bl, ofO_s, Bool.false_eq_true, if_false, cD]
  · rw [decide_eq_false e] at ce
    obtain ⟨v, h1, q1, v0, v1, j1, l1, f1⟩ := draw (T := TT) (nx := 3) rfl k (j.app (o := .lst [])) (m := 3) (by decide) (by decide)
    have n3 : m3 < h.length := (List.getElem?_eq_some_iff.mp g3).1
    have n4 : m4 < h.length := (List.getElem?_eq_some_iff.mp g4).1
    by_cases q : 0 < v
    · have lpos : 1 ≤ cs.length := by
        cases cs with
        | nil => exact absurd rfl e
        | cons _ _ => simp
      have g4' := f1.at (app_old g4) (by omega)
      obtain ⟨u, h2, q2, u0, u1, j2, l2, f2⟩ := draw (T := TT) (nx := 3) rfl k j1 (m := (cs.length : Int)) (by omega) (by omega)
      obtain ⟨d, hd, hm⟩ := at_ok (l := cs) u0 u1
      obtain ⟨c, rfl⟩ := hc d hm
      have g4'' := f2.at g4' (by omega)
      refine ⟨some c, h2, ?_, f2.at (f1.at (app_old g3) (by omega)) (by omega), j2⟩
      simp only [s_law16, exec, evT, ev, evs, Rs.bind_ok, List.getElem?_cons_zero, List.getElem?_cons_succ, al_eq, ce, Bool.not_false, tr_bl, ofO_s, q1, cg_int, decide_eq_true q, if_true, bt_len_lst g4', q2, idx_lst g4'', hd, List.set_cons_succ, List.set_cons_zero, cD]
    · refine ⟨none, h1, ?_, f1.at (app_old g3) (by omega), j1⟩
      simp only [s_law16, exec, evT, ev, evs, Rs.bind_ok, List.getElem?_cons_zero, List.getElem?_cons_succ, al_eq, ce, Bool.not_false, tr_bl, ofO_s, q1, cg_int, decide_eq_false q, Bool.false_eq_true, if_false, cD]
theorem p17 (j : J ML h) (g3 : h[m3]? = some (.lst s)) (h3 : 2 < m3) : ∃ md h', exec (calls TT (k + 1)) s_law17 (E0 x0 (some (.ref m3)) y4 y5 none none none none) h = .ok (.nx (E0 x0 (some (.ref m3)) y4 y5 (some (.str md)) none none none)) h' ∧ MdOk md ∧ h'[m3]? = some (.lst s) ∧ J ML h' := by
  obtain ⟨v, h1, q1, v0, v1, j1, l1, f1⟩ := draw (T := TT) (nx := 3) rfl k (j.app (o := .lst [.str sShared, .str sExcl])) (m := 2) (by decide) (by decide)
  have n3 : m3 < h.length := (List.getElem?_eq_some_iff.mp g3).1
  have hJ := j.lt
  have gx : h1[h.length]? = some (.lst [.str sShared, .str sExcl]) := f1.at app_new (by omega)
  have q1' : calls TT (k + 1) 3 [.ref 1, .int 2] (h ++ [.lst [.str [115, 104, 97, 114, 101, 100], .str [101, 120, 99, 108, 117, 115, 105, 118, 101]]]) = .ok (.int v) h1 := q1
  have hv : v = 0 ∨ v = 1 := by omega
  rcases hv with rfl | rfl
  · refine ⟨sShared, h1, ?_, .inl rfl, f1.at (app_old g3) (by omega), j1⟩
    simp only [s_law17, exec, ev, evs, Rs.bind_ok, List.getElem?_cons_zero, List.getElem?_cons_succ, al_eq, q1', idx_lst gx, at0, ofO_s, List.set_cons_succ, List.set_cons_zero]
  · refine ⟨sExcl, h1, ?_, .inr rfl, f1.at (app_old g3) (by omega), j1⟩
    simp only [s_law17, exec, ev, evs, Rs.bind_ok, List.getElem?_cons_zero, List.getElem?_cons_succ, al_eq, q1', idx_lst gx, at1, ofO_s, List.set_cons_succ, List.set_cons_zero]
theorem p20 {md : Sg} {v : Int} (v0 : 0 ≤ v) (j : J ML h) (g3 : h[m3]? = some (.lst s)) (h3 : 2 < m3) (hs : OkL s) (hl : s.length < 9) : ∃ m9 l h', exec (calls TT (k + 1)) s_law20 (E0 x0 (some (.ref m3)) y4 y5 y6 y7 (some (.int v)) none) h = .ok (.nx (E0 x0 (some (.ref m3)) y4 y5 y6 y7 (some (.int v)) (some (.ref m9)))) h' ∧ h'[m3]? = some (.lst s) ∧ h'[m9]? = some (.lst l) ∧ OkL l ∧ l.length ≤ 1000 := by
  have n3 : m3 < h.length := (List.getElem?_eq_some_iff.mp g3).1
  obtain ⟨ds, hds⟩ : ∃ ds, ds = s.take (min v.toNat s.length) := ⟨_, rfl⟩
  have a1 : slcD (.ref m3) none (some v) h = .ok (.ref h.length) (h ++ [.lst ds]) := by rw [sl_lst g3, cut_nat v0, hds]
  obtain ⟨d, h', q, m, acc, rfl, b1, b2, b3, b4, b5, b6⟩ := dl_ok (T := TT) (nx := 3) rfl k (L := 18) (slot := 13) (by decide) (b := 5) (c := 4) (by decide) (by decide) (by decide) (by decide) (by decide) (e0_en (x0 := x0) (y3 := some (.ref m3)) (y4 := y4) (y5 := y5) (y6 := y6) (y7 := y7) (y8 := some (.int v)) (y9 := none)) (j.app (o := .lst ds))
  have q' : ev (calls TT (k + 1)) (.lc .rng1 (.ac (.call 3 (.ac (.var 1) (.ac (.cst (.int 4)) .an))) .an) (.one 13) [13] false .an e_law2) (E0 x0 (some (.ref m3)) y4 y5 y6 y7 (some (.int v)) none) (h ++ [.lst ds]) = .ok (.ref m) h' := q
  have ln : ds.length < 9 := by rw [hds, List.length_take]; omega
  have gd : h'[h.length]? = some (.lst ds) := b6.at app_new (by have := j.lt; omega)
  have hlim : ds.length + acc.length ≤ lim := by show _ ≤ 16777216; omega
  refine ⟨h'.length, ds ++ acc, h' ++ [.lst (ds ++ acc)], ?_, app_old (b6.at (app_old g3) (by omega)), app_new, OkL.app (by rw [hds]; exact hs.take _) (ml_mem b3), by rw [List.length_append]; omega⟩
  have st : ev (calls TT (k + 1)) (.slc false true (.var 3) .an (.var 8)) (E0 x0 (some (.ref m3)) y4 y5 y6 y7 (some (.int v)) none) h = .ok (.ref h.length) (h ++ [.lst ds]) := by
    simp only [ev, Rs.bind_ok, List.getElem?_cons_zero, List.getElem?_cons_succ, Bool.false_eq_true, if_false, if_true, a1]
  rw [s_law20, exec, ev, st]
  simp only [Rs.bind_ok]
  rw [q']
  simp only [Rs.bind_ok, binD, getL_of gd, getL_of b2, if_pos hlim, al_eq, List.set_cons_succ, List.set_cons_zero]
end
theorem law_true (ns : List Int) (h : ns.length ≤ 63) : ∃ h, calls TT 100 5 [.fro (ns.map .int)] [] = .ok (.bl true) h := by
  rw [calls_ok (k := 99) (d := d_law) rfl rfl]
  obtain ⟨x0, hx0⟩ : ∃ x, x = some (D.fro (ns.map .int)) := ⟨_, rfl⟩
  have a0 : exec (calls TT 99) s_law11 (startE d_law [.fro (ns.map .int)]) [] = .ok (.nx [x0, some (.ref 1), none, none, none, none, none, none, none, none, none, none, none, none, none, none, none, none]) [.lst (ns.map .int), .lst [.ref 0, .int 0, .int 0, .int 1]] := by rw [hx0]; rfl
  have a1 : exec (calls TT 99) s_law12 [x0, some (.ref 1), none, none, none, none, none, none, none, none, none, none, none, none, none, none, none, none] [.lst (ns.map .int), .lst [.ref 0, .int 0, .int 0, .int 1]] = .ok (.nx (E0 x0 none none none none none none none)) [.lst (ns.map .int), .lst [.ref 0, .int 0, .int 0, .int 1], .lst ML] := rfl
  have j0 : J ML [.lst (ns.map .int), .lst [.ref 0, .int 0, .int 0, .int 1], .lst ML] := ⟨⟨by decide, ns, 0, 0, 1, rfl, rfl, by decide, by decide, by decide, by decide⟩, rfl⟩
  obtain ⟨m3, s, h3, q3, n3, g3, os, ls, j3⟩ := p13 (x0 := x0) (k := 98) j0
  obtain ⟨m4, cs, h4, q4, g3, n4, g4, oc, lc, j4⟩ := p14 (x0 := x0) (k := 98) j3 g3 n3 os ls
  have q5 : exec (calls TT 99) s_law15 (E0 x0 (some (.ref m3)) (some (.ref m4)) none none none none none) h4 = .ok (.nx (E0 x0 (some (.ref m3)) (some (.ref m4)) (some .non) none none none none)) h4 := rfl
  obtain ⟨c, h6, q6, g3, j6⟩ := p16 (x0 := x0) (k := 98) j4 g3 n3 g4 n4 oc lc
  obtain ⟨md, h7, q7, om, g3, j7⟩ := p17 (x0 := x0) (k := 98) (y4 := some (.ref m4)) (y5 := some (cD c)) j6 g3 n3
  have q8 : exec (calls TT 99) s_law18 (E0 x0 (some (.ref m3)) (some (.ref m4)) (some (cD c)) (some (.str md)) none none none) h7 = .ok (.nx (E0 x0 (some (.ref m3)) (some (.ref m4)) (some (cD c)) (some (.str md)) (some (.tup [.str md, .tup [vx, .tup s]])) none none)) h7 := by
    simp only [s_law18, exec, ev, evs, Rs.bind_ok, List.getElem?_cons_zero, List.getElem?_cons_succ, bt_tuple_lst g3, List.set_cons_succ, List.set_cons_zero]
    rfl
  obtain ⟨v, h9, q9, v0, v1, j9, l9, f9⟩ := draw (T := TT) (nx := 3) rfl 98 j7 (m := (s.length : Int) + 1) (by omega) (by omega)
  have q9' : exec (calls TT 99) s_law19 (E0 x0 (some (.ref m3)) (some (.ref m4)) (some (cD c)) (some (.str md)) (some (.tup [.str md, .tup [vx, .tup s]])) none none) h7 = .ok (.nx (E0 x0 (some (.ref m3)) (some (.ref m4)) (some (cD c)) (some (.str md)) (some (.tup [.str md, .tup [vx, .tup s]])) (some (.int v)) none)) h9 := by
    simp only [s_law19, exec, ev, evs, Rs.bind_ok, List.getElem?_cons_zero, List.getElem?_cons_succ, bt_len_lst g3, b_add, q9, List.set_cons_succ, List.set_cons_zero]
  have g3 := f9.at g3 (by omega)
  obtain ⟨m9, l, h10, q10, g3, g9, ol, ll⟩ := p20 (md := md) (x0 := x0) (k := 98) (y4 := some (.ref m4)) (y5 := some (cD c)) (y6 := some (.str md)) (y7 := some (.tup [.str md, .tup [vx, .tup s]])) v0 j9 g3 n3 os ls
  obtain ⟨e', h11, q11⟩ := l2_ok (k := 96) (x0 := x0) (x4 := some (.ref m4)) (x8 := some (.int v)) (c := c) (md := md) (y10 := none) (y11 := none) (y12 := none) (y13 := none) (y14 := none) (y15 := none) (y16 := none) (y17 := none) os ol ll om g3 g9
  refine ⟨h11, ?_⟩
  show (exec (calls TT 99) c_law _ _).bind retF = _
  simp only [c_law, exec]
  rw [a0]
  simp only [Rs.bind_ok]
  rw [a1]
  simp only [Rs.bind_ok]
  rw [q3]
  simp only [Rs.bind_ok]
  rw [q4]
  simp only [Rs.bind_ok]
  rw [q5]
  simp only [Rs.bind_ok]
  rw [q6]
  simp only [Rs.bind_ok]
  rw [q7]
  simp only [Rs.bind_ok]
  rw [q8]
  simp only [Rs.bind_ok]
  rw [q9']
  simp only [Rs.bind_ok]
  rw [q10]
  simp only [Rs.bind_ok]
  rw [q11]
  simp only [Rs.bind_ok, s_law21, exec, ev, retF]
end Rf.K37

namespace Rf.K37
open PySem PySem.Spec PyProof.Rows L2
/-! ### the names, the text by places -/
def defsT : List (Str × List Str × Bool) := [("is_prefix", ["first", "second"], true), ("overlap", ["first", "second"], true), ("conflicts", ["access", "loan", "crossing"], true), ("_law_next", ["state", "limit"], true), ("_law_same", ["actual", "expected"], true), ("law", ["script"], true)]
def kwsT : List (Nat × Nat × List Str × List Nat) := []
def cstT : List (Str × D) := []
def gam : Names := ⟨[], defsT, kwsT, cstT⟩
def topS (i : Nat) : Stmt := PySem.Challenge.pw_lendback_k37_nearer_places_conflict_more.main.body.getD i (.Pass ⟨0, 0, 0, 0⟩)
abbrev t_is_prefix : Stmt := topS 1
def n_is_prefix : List Str := ["first", "second", "many"]
theorem sc_is_prefix : FnScope n_is_prefix ["first", "second"] (defScope t_is_prefix) := ⟨rfl, rfl, rfl, by decide +kernel, rfl, by decide +kernel, by decide +kernel⟩
theorem cc_is_prefix : compSs (compS { gam with N := n_is_prefix } (defScope t_is_prefix) 40) (defBody t_is_prefix) = some d_is_prefix.body := by kernel_rfl
abbrev t_overlap : Stmt := topS 2
def n_overlap : List Str := ["first", "second"]
theorem sc_overlap : FnScope n_overlap ["first", "second"] (defScope t_overlap) := ⟨rfl, rfl, rfl, by decide +kernel, rfl, by decide +kernel, by decide +kernel⟩
theorem cc_overlap : compSs (compS { gam with N := n_overlap } (defScope t_overlap) 40) (defBody t_overlap) = some d_overlap.body := by kernel_rfl
abbrev t_conflicts : Stmt := topS 4
def n_conflicts : List Str := ["access", "loan", "crossing", "place"]
theorem sc_conflicts : FnScope n_conflicts ["access", "loan", "crossing"] (defScope t_conflicts) := ⟨rfl, rfl, rfl, by decide +kernel, rfl, by decide +kernel, by decide +kernel⟩
theorem cc_conflicts : compSs (compS { gam with N := n_conflicts } (defScope t_conflicts) 40) (defBody t_conflicts) = some d_conflicts.body := by kernel_rfl
abbrev t_law_next : Stmt := topS 6
def n_law_next : List Str := ["state", "limit", "cell", "value"]
theorem sc_law_next : FnScope n_law_next ["state", "limit"] (defScope t_law_next) := ⟨rfl, rfl, rfl, by decide +kernel, rfl, by decide +kernel, by decide +kernel⟩
theorem cc_law_next : compSs (compS { gam with N := n_law_next } (defScope t_law_next) 40) (defBody t_law_next) = some d_law_next.body := by kernel_rfl
abbrev t_law_same : Stmt := topS 7
def n_law_same : List Str := ["actual", "expected", "k"]
theorem sc_law_same : FnScope n_law_same ["actual", "expected"] (defScope t_law_same) := ⟨rfl, rfl, rfl, by decide +kernel, rfl, by decide +kernel, by decide +kernel⟩
theorem cc_law_same : compSs (compS { gam with N := n_law_same } (defScope t_law_same) 40) (defBody t_law_same) = some d_law_same.body := by kernel_rfl
abbrev t_law : Stmt := topS 8
def n_law : List Str := ["script", "state", "menu", "steps", "carets", "crossing", "mode", "loan", "shared", "line", "word", "found", "many", "k", "place", "least", "near", "due"]
theorem sc_law : FnScope n_law ["script"] (defScope t_law) := ⟨rfl, rfl, rfl, by decide +kernel, rfl, by decide +kernel, by decide +kernel⟩
theorem cc_law : compSs (compS { gam with N := n_law } (defScope t_law) 40) (defBody t_law) = some d_law.body := by kernel_rfl
section
variable {K : PySem.W.Frag} {mg : Str → Option Value}
theorem df_is_prefix {f : Addr} {fd : FuncData} (F : Fun K "is_prefix" "is_prefix" t_is_prefix f fd) (h : mg "is_prefix" = some (.ref f)) : DefFact K mg TT gam 0 "is_prefix" ["first", "second"] true := by
  refine ⟨f, fd, t_is_prefix, n_is_prefix, d_is_prefix, h, F, sc_is_prefix, fun _ => F.binds (ps := ["first", "second"]) fun _ _ _ _ _ _ us hl => match us, hl with | [_, _], _ => rfl, ?_, rfl, rfl, rfl, cc_is_prefix⟩
  exact fun n ks p hm => absurd hm (by simp [gam, kwsT])
theorem df_overlap {f : Addr} {fd : FuncData} (F : Fun K "overlap" "overlap" t_overlap f fd) (h : mg "overlap" = some (.ref f)) : DefFact K mg TT gam 1 "overlap" ["first", "second"] true := by
  refine ⟨f, fd, t_overlap, n_overlap, d_overlap, h, F, sc_overlap, fun _ => F.binds (ps := ["first", "second"]) fun _ _ _ _ _ _ us hl => match us, hl with | [_, _], _ => rfl, ?_, rfl, rfl, rfl, cc_overlap⟩
  exact fun n ks p hm => absurd hm (by simp [gam, kwsT])
theorem df_conflicts {f : Addr} {fd : FuncData} (F : Fun K "conflicts" "conflicts" t_conflicts f fd) (h : mg "conflicts" = some (.ref f)) : DefFact K mg TT gam 2 "conflicts" ["access", "loan", "crossing"] true := by
  refine ⟨f, fd, t_conflicts, n_conflicts, d_conflicts, h, F, sc_conflicts, fun _ => F.binds (ps := ["access", "loan", "crossing"]) fun _ _ _ _ _ _ us hl => match us, hl with | [_, _, _], _ => rfl, ?_, rfl, rfl, rfl, cc_conflicts⟩
  exact fun n ks p hm => absurd hm (by simp [gam, kwsT])
theorem df_law_next {f : Addr} {fd : FuncData} (F : Fun K "_law_next" "_law_next" t_law_next f fd) (h : mg "_law_next" = some (.ref f)) : DefFact K mg TT gam 3 "_law_next" ["state", "limit"] true := by
  refine ⟨f, fd, t_law_next, n_law_next, d_law_next, h, F, sc_law_next, fun _ => F.binds (ps := ["state", "limit"]) fun _ _ _ _ _ _ us hl => match us, hl with | [_, _], _ => rfl, ?_, rfl, rfl, rfl, cc_law_next⟩
  exact fun n ks p hm => absurd hm (by simp [gam, kwsT])
theorem df_law_same {f : Addr} {fd : FuncData} (F : Fun K "_law_same" "_law_same" t_law_same f fd) (h : mg "_law_same" = some (.ref f)) : DefFact K mg TT gam 4 "_law_same" ["actual", "expected"] true := by
  refine ⟨f, fd, t_law_same, n_law_same, d_law_same, h, F, sc_law_same, fun _ => F.binds (ps := ["actual", "expected"]) fun _ _ _ _ _ _ us hl => match us, hl with | [_, _], _ => rfl, ?_, rfl, rfl, rfl, cc_law_same⟩
  exact fun n ks p hm => absurd hm (by simp [gam, kwsT])
theorem df_law {f : Addr} {fd : FuncData} (F : Fun K "law" "law" t_law f fd) (h : mg "law" = some (.ref f)) : DefFact K mg TT gam 5 "law" ["script"] true := by
  refine ⟨f, fd, t_law, n_law, d_law, h, F, sc_law, fun _ => F.binds (ps := ["script"]) fun _ _ _ _ _ _ us hl => match us, hl with | [_], _ => rfl, ?_, rfl, rfl, rfl, cc_law⟩
  exact fun n ks p hm => absurd hm (by simp [gam, kwsT])
end
theorem all_mk {l : PySem.W.OpenLaw} {w : World} {K : PySem.W.Frag} {h : Heap} {mg : Str → Option Value} {fa f0 f1 f2 f3 f4 f5 : Addr} (X : K.In h) (G : h.Ns mainGlobals mg) (hfa : mg "law" = some (.ref fa))
    {od0 an0 : Option Addr} {sl0 : Array (Option Value)} {oc0 kV0 dc0 pm0 cd0 ct0 : Value}
    {od1 an1 : Option Addr} {sl1 : Array (Option Value)} {oc1 kV1 dc1 pm1 cd1 ct1 : Value}
    {od2 an2 : Option Addr} {sl2 : Array (Option Value)} {oc2 kV2 dc2 pm2 cd2 ct2 : Value}
    {od3 an3 : Option Addr} {sl3 : Array (Option Value)} {oc3 kV3 dc3 pm3 cd3 ct3 : Value}
    {od4 an4 : Option Addr} {sl4 : Array (Option Value)} {oc4 kV4 dc4 pm4 cd4 ct4 : Value}
    {od5 an5 : Option Addr} {sl5 : Array (Option Value)} {oc5 kV5 dc5 pm5 cd5 ct5 : Value}
    (a0 : PySem.W.nsIn K mainGlobals "is_prefix" = some (some (.ref f0))) (l0 : K.lookup f0 = some ⟨oc0, od0, .func (PySem.W.fnOf "is_prefix" "is_prefix" (defArgs t_is_prefix) (defBody t_is_prefix) (defScope t_is_prefix) .none kV0 dc0 pm0 an0 cd0 ct0), sl0⟩) (b0 : PySem.W.codeIn K cd0 "is_prefix" = true) (k0 : PySem.W.keepIn K (.ref f0) = true)
    (a1 : PySem.W.nsIn K mainGlobals "overlap" = some (some (.ref f1))) (l1 : K.lookup f1 = some ⟨oc1, od1, .func (PySem.W.fnOf "overlap" "overlap" (defArgs t_overlap) (defBody t_overlap) (defScope t_overlap) .none kV1 dc1 pm1 an1 cd1 ct1), sl1⟩) (b1 : PySem.W.codeIn K cd1 "overlap" = true) (k1 : PySem.W.keepIn K (.ref f1) = true)
    (a2 : PySem.W.nsIn K mainGlobals "conflicts" = some (some (.ref f2))) (l2 : K.lookup f2 = some ⟨oc2, od2, .func (PySem.W.fnOf "conflicts" "conflicts" (defArgs t_conflicts) (defBody t_conflicts) (defScope t_conflicts) .none kV2 dc2 pm2 an2 cd2 ct2), sl2⟩) (b2 : PySem.W.codeIn K cd2 "conflicts" = true) (k2 : PySem.W.keepIn K (.ref f2) = true)
    (a3 : PySem.W.nsIn K mainGlobals "_law_next" = some (some (.ref f3))) (l3 : K.lookup f3 = some ⟨oc3, od3, .func (PySem.W.fnOf "_law_next" "_law_next" (defArgs t_law_next) (defBody t_law_next) (defScope t_law_next) .none kV3 dc3 pm3 an3 cd3 ct3), sl3⟩) (b3 : PySem.W.codeIn K cd3 "_law_next" = true) (k3 : PySem.W.keepIn K (.ref f3) = true)
    (a4 : PySem.W.nsIn K mainGlobals "_law_same" = some (some (.ref f4))) (l4 : K.lookup f4 = some ⟨oc4, od4, .func (PySem.W.fnOf "_law_same" "_law_same" (defArgs t_law_same) (defBody t_law_same) (defScope t_law_same) .none kV4 dc4 pm4 an4 cd4 ct4), sl4⟩) (b4 : PySem.W.codeIn K cd4 "_law_same" = true) (k4 : PySem.W.keepIn K (.ref f4) = true)
    (a5 : PySem.W.nsIn K mainGlobals "law" = some (some (.ref f5))) (l5 : K.lookup f5 = some ⟨oc5, od5, .func (PySem.W.fnOf "law" "law" (defArgs t_law) (defBody t_law) (defScope t_law) .none kV5 dc5 pm5 an5 cd5 ct5), sl5⟩) (b5 : PySem.W.codeIn K cd5 "law" = true) (k5 : PySem.W.keepIn K (.ref f5) = true)
    (z0 : PySem.W.nsIn K mainGlobals "len" = some none)
    (z1 : PySem.W.nsIn K mainGlobals "abs" = some none)
    (z2 : PySem.W.nsIn K mainGlobals "int" = some none)
    (z3 : PySem.W.nsIn K mainGlobals "list" = some none)
    (z4 : PySem.W.nsIn K mainGlobals "tuple" = some none)
    (z5 : PySem.W.nsIn K mainGlobals "sum" = some none)
    (z6 : PySem.W.nsIn K mainGlobals "max" = some none)
    (z7 : PySem.W.nsIn K mainGlobals "min" = some none)
    (z8 : PySem.W.nsIn K mainGlobals "dict" = some none)
    (z9 : PySem.W.nsIn K mainGlobals "isinstance" = some none)
    (z10 : PySem.W.nsIn K mainGlobals "bool" = some none)
    (z11 : PySem.W.nsIn K mainGlobals "str" = some none)
    (z12 : PySem.W.nsIn K mainGlobals "range" = some none)
    (z13 : PySem.W.nsIn K mainGlobals "enumerate" = some none)
    (z14 : PySem.W.nsIn K mainGlobals "zip" = some none) :
    ∃ fd : FuncData, (∀ (s : Shared) (v : Value), BindsTo s fd ⟨[v], []⟩ [("script", v)]) ∧ ∀ base : Heap, K.In base → base.Ns mainGlobals mg → FnOk l.prog w K mg base CX0 100 fa fd ["script"] (spD K (fun _ => none) (calls TT 100) 5) := by
  have F0 := fun_mk (st := t_is_prefix) l0 b0 k0
  have F1 := fun_mk (st := t_overlap) l1 b1 k1
  have F2 := fun_mk (st := t_conflicts) l2 b2 k2
  have F3 := fun_mk (st := t_law_next) l3 b3 k3
  have F4 := fun_mk (st := t_law_same) l4 b4 k4
  have F5 := fun_mk (st := t_law) l5 b5 k5
  have bl : ∀ x ∈ bltNames, mg x = none := fun x hx => by
    simp only [bltNames, List.mem_cons, List.not_mem_nil, or_false] at hx
    rcases hx with rfl | rfl | rfl | rfl | rfl | rfl | rfl | rfl | rfl | rfl | rfl | rfl | rfl | rfl | rfl
    · exact PySem.W.mg_none_of X G z0
    · exact PySem.W.mg_none_of X G z1
    · exact PySem.W.mg_none_of X G z2
    · exact PySem.W.mg_none_of X G z3
    · exact PySem.W.mg_none_of X G z4
    · exact PySem.W.mg_none_of X G z5
    · exact PySem.W.mg_none_of X G z6
    · exact PySem.W.mg_none_of X G z7
    · exact PySem.W.mg_none_of X G z8
    · exact PySem.W.mg_none_of X G z9
    · exact PySem.W.mg_none_of X G z10
    · exact PySem.W.mg_none_of X G z11
    · exact PySem.W.mg_none_of X G z12
    · exact PySem.W.mg_none_of X G z13
    · exact PySem.W.mg_none_of X G z14
  have defs : ∀ i nm ps pl, gam.defs[i]? = some (nm, ps, pl) → DefFact K mg TT gam i nm ps pl := fun i nm ps pl hi => by
    match i, hi with
    | 0, hi => cases hi; exact df_is_prefix F0 (PySem.W.mg_of X G a0)
    | 1, hi => cases hi; exact df_overlap F1 (PySem.W.mg_of X G a1)
    | 2, hi => cases hi; exact df_conflicts F2 (PySem.W.mg_of X G a2)
    | 3, hi => cases hi; exact df_law_next F3 (PySem.W.mg_of X G a3)
    | 4, hi => cases hi; exact df_law_same F4 (PySem.W.mg_of X G a4)
    | 5, hi => cases hi; exact df_law F5 (PySem.W.mg_of X G a5)
    | i + 6, hi => exact absurd (show (none : Option (Str × List Str × Bool)) = some _ from hi) (by simp)
  have cst : ∀ x d, gam.consts.lookup x = some d → ∃ u v, mg x = some u ∧ RelV v u ∧ ∀ ρ H, RD K ρ H d v := fun x d hx => by
    simp [gam, cstT] at hx
  have e := hfa.symm.trans (PySem.W.mg_of X G a5)
  cases e
  refine ⟨PySem.W.fnOf "law" "law" (defArgs t_law) (defBody t_law) (defScope t_law) .none kV5 dc5 pm5 an5 cd5 ct5, fun s v => .of_eq rfl, fun base _ _ => ?_⟩
  exact fns_at defs bl cst 100 5 rfl F5 (PySem.W.mg_of X G a5)
end Rf.K37
open PySem PySem.W PyProof.Rows
set_option maxHeartbeats 0 in
theorem PySem.Challenge.cw_lendback_k37_nearer_places_conflict_more_holds : PySem.Challenge.rw_lendback_k37_nearer_places_conflict_more.Holds := by
  w_on; o_law; k_head; (case hw => w_witness2)
  k_fill
  refine L2.walk_of (l := PySem.Challenge.rw_lendback_k37_nearer_places_conflict_more) (n := 63) (k := 100) (x := "script") (CX := fun _ => L2.CX0) (sp := fun w => Rf.spD _ (fun _ => none) (Rf.calls Rf.K37.TT 100) 5) rfl (by decide) rfl ⟨rfl, by decide, by decide⟩ (fun w h Y => PySem.W.kIn_of Y) ?F (fun w H a ns hl hO hS => Rf.law_ok Rf.K37.law_true H a ns hl hO hS) (fun _ _ _ _ _ h => h)
  case F =>
    intro w mg fa h KX G hmg
    refine' Rf.K37.all_mk KX G hmg ?a0 ?l0 ?b0 ?k0 ?a1 ?l1 ?b1 ?k1 ?a2 ?l2 ?b2 ?k2 ?a3 ?l3 ?b3 ?k3 ?a4 ?l4 ?b4 ?k4 ?a5 ?l5 ?b5 ?k5 ?z0 ?z1 ?z2 ?z3 ?z4 ?z5 ?z6 ?z7 ?z8 ?z9 ?z10 ?z11 ?z12 ?z13 ?z14
    (case a0 => k_is)
    (case l0 => k_is)
    (case b0 => k_is)
    (case k0 => k_is)
    (case a1 => k_is)
    (case l1 => k_is)
    (case b1 => k_is)
    (case k1 => k_is)
    (case a2 => k_is)
    (case l2 => k_is)
    (case b2 => k_is)
    (case k2 => k_is)
    (case a3 => k_is)
    (case l3 => k_is)
    (case b3 => k_is)
    (case k3 => k_is)
    (case a4 => k_is)
    (case l4 => k_is)
    (case b4 => k_is)
    (case k4 => k_is)
    (case a5 => k_is)
    (case l5 => k_is)
    (case b5 => k_is)
    (case k5 => k_is)
    (case z0 => k_is)
    (case z1 => k_is)
    (case z2 => k_is)
    (case z3 => k_is)
    (case z4 => k_is)
    (case z5 => k_is)
    (case z6 => k_is)
    (case z7 => k_is)
    (case z8 => k_is)
    (case z9 => k_is)
    (case z10 => k_is)
    (case z11 => k_is)
    (case z12 => k_is)
    (case z13 => k_is)
    (case z14 => k_is)
