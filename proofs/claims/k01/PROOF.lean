import PyProof.Rows.All
import Wide.All
import OpenK.AllK
import Wide.FinOn
import HandS.ForMost
import HandS.IsInst
import HandS.Wide
import HandS.TupAny
import HandS.TupMul
import HandS.EndBits
import HandS.Style
import HandS.Dict
import HandS.DictTup
import HandS.Iter
import HandS.DictEq
import KE.KDictDisplayH
import HandS.Text
import HandS.Replace
import PyProof.StrOps2
import PySem.Challenge.RW_floorways_k01_words
set_option Elab.async false
set_option linter.all false
set_option maxRecDepth 100000
set_option maxHeartbeats 4000000
/-! Dn1: values as trees, mutable things as numbered cells; how they stand in HandS's abstract heap. -/
namespace Dn
open PySem PySem.Spec PyProof.Rows L2

/-- a value as a tree; .ref n: the n-th mutable cell; .scr: the script; .raw: a class, a function, a type -/
inductive D where
  | non | bl (b : Bool) | int (i : Int) | str (s : Str)
  | tup (xs : List D) | lst (xs : List D) | scr (ns : List Int) | ref (n : Nat) | raw (v : V)
/-- a mutable cell -/
inductive Nd where
  | lst (xs : List D) | dK (kvs : List (Key × D)) | dT (kvs : List (List Key × D)) | ins (C : Addr) (fs : List (Str × D))
  | lkK (o : Obj) (ws : List (Key × V)) (kvs : List (Key × D)) | lkT (o : Obj) (ws : List (List Key × V)) (kvs : List (List Key × D))
abbrev Mu := List Nd
abbrev Ro := List (Option D)
abbrev Ad := List Addr
/-- an exception: its class, its fields -/
structure Ex where
  cls : Value
  fs : List (Str × D)

/-- a list of values by what makes them; a name of its own keeps simp's lemmas of map away -/
def mapD {α : Type} (f : α → D) (xs : List α) : List D := xs.map f

mutual
inductive Rp (K : PySem.W.Frag) (S : Hp) (ad : Ad) : V → D → Prop
  | non : Rp K S ad .non .non
  | bl (b : Bool) : Rp K S ad (.bl b) (.bl b)
  | int (i : Int) : Rp K S ad (.int i) (.int i)
  | str (x : Str) : Rp K S ad (.str x) (.str x)
  | tup {a : Addr} {xs : List V} {ds : List D} : S a = some (.tup xs) → RpL K S ad xs ds → Rp K S ad (.ref a) (.tup ds)
  | lst {a : Addr} {xs : List V} {ds : List D} : S a = some (.lst xs) → RpL K S ad xs ds → Rp K S ad (.ref a) (.lst ds)
  | scr {a : Addr} {ns : List Int} : SqL K S a (ns.map V.int) → Rp K S ad (.ref a) (.scr ns)
  | ref {a : Addr} {n : Nat} : ad[n]? = some a → Rp K S ad (.ref a) (.ref n)
  | raw (v : V) : Rp K S ad v (.raw v)
inductive RpL (K : PySem.W.Frag) (S : Hp) (ad : Ad) : List V → List D → Prop
  | nil : RpL K S ad [] []
  | cons {v : V} {vs : List V} {d : D} {ds : List D} : Rp K S ad v d → RpL K S ad vs ds → RpL K S ad (v :: vs) (d :: ds)
end

theorem same_t {K : PySem.W.Frag} {H H' : Hp} {a : Addr} {xs : List V} (e : Same H H') (h : SqT K H a xs) : SqT K H' a xs := by
  rcases h with (h | ⟨o, h⟩) | h
  · exact .inl (.inl (e _ _ h))
  · exact .inl (.inr ⟨o, e _ _ h⟩)
  · exact .inr h

section
variable {K : PySem.W.Frag} {S S' : Hp} {ad ad' : Ad}
mutual
theorem Rp.mono (e : Same S S') (p : ∀ (n : Nat) (a : Addr), ad[n]? = some a → ad'[n]? = some a) : ∀ {v : V} {d : D}, Rp K S ad v d → Rp K S' ad' v d
  | _, _, .non => .non
  | _, _, .bl b => .bl b
  | _, _, .int i => .int i
  | _, _, .str x => .str x
  | _, _, .tup h r => .tup (e _ _ h) (RpL.mono e p r)
  | _, _, .lst h r => .lst (e _ _ h) (RpL.mono e p r)
  | _, _, .scr h => .scr (e.seq h)
  | _, _, .ref h => .ref (p _ _ h)
  | _, _, .raw v => .raw v
theorem RpL.mono (e : Same S S') (p : ∀ (n : Nat) (a : Addr), ad[n]? = some a → ad'[n]? = some a) : ∀ {vs : List V} {ds : List D}, RpL K S ad vs ds → RpL K S' ad' vs ds
  | _, _, .nil => .nil
  | _, _, .cons h r => .cons (Rp.mono e p h) (RpL.mono e p r)
end

theorem RpL.length {vs : List V} {ds : List D} (r : RpL K S ad vs ds) : vs.length = ds.length := by
  match r with
  | .nil => rfl
  | .cons _ t => rw [List.length_cons, List.length_cons, RpL.length t]
theorem RpL.get {vs : List V} {ds : List D} (r : RpL K S ad vs ds) {i : Nat} {d : D} (h : ds[i]? = some d) : ∃ v, vs[i]? = some v ∧ Rp K S ad v d := by
  match r, i, h with
  | .nil, _, h => simp at h
  | .cons p _, 0, h => simp at h; subst h; exact ⟨_, rfl, p⟩
  | .cons _ t, i + 1, h =>
    obtain ⟨v, h1, h2⟩ := RpL.get t (i := i) (by simpa using h)
    exact ⟨v, by simpa using h1, h2⟩
theorem RpL.getV {vs : List V} {ds : List D} (r : RpL K S ad vs ds) {i : Nat} {v : V} (h : vs[i]? = some v) : ∃ d, ds[i]? = some d ∧ Rp K S ad v d := by
  match r, i, h with
  | .nil, _, h => simp at h
  | .cons p _, 0, h => simp at h; subst h; exact ⟨_, rfl, p⟩
  | .cons _ t, i + 1, h =>
    obtain ⟨d, h1, h2⟩ := RpL.getV t (i := i) (by simpa using h)
    exact ⟨d, by simpa using h1, h2⟩
theorem RpL.append {vs : List V} {ds : List D} {ws : List V} {es : List D} (r : RpL K S ad vs ds) (q : RpL K S ad ws es) : RpL K S ad (vs ++ ws) (ds ++ es) := by
  match r with
  | .nil => exact q
  | .cons p t => exact .cons p (RpL.append t q)
theorem RpL.set {vs : List V} {ds : List D} (r : RpL K S ad vs ds) {v : V} {d : D} (h : Rp K S ad v d) (i : Nat) : RpL K S ad (vs.set i v) (ds.set i d) := by
  match r, i with
  | .nil, _ => exact .nil
  | .cons p t, 0 => exact .cons h t
  | .cons p t, i + 1 => exact .cons p (RpL.set t h i)
theorem RpL.take {vs : List V} {ds : List D} (r : RpL K S ad vs ds) (n : Nat) : RpL K S ad (vs.take n) (ds.take n) := by
  match r, n with
  | .nil, n => simp; exact .nil
  | .cons p t, 0 => exact .nil
  | .cons p t, n + 1 => exact .cons p (RpL.take t n)
theorem RpL.drop {vs : List V} {ds : List D} (r : RpL K S ad vs ds) (n : Nat) : RpL K S ad (vs.drop n) (ds.drop n) := by
  match r, n with
  | .nil, n => simp; exact .nil
  | .cons p t, 0 => exact .cons p t
  | .cons p t, n + 1 => exact RpL.drop t n
theorem RpL.erase {vs : List V} {ds : List D} (r : RpL K S ad vs ds) (i : Nat) : RpL K S ad (vs.eraseIdx i) (ds.eraseIdx i) := by
  match r, i with
  | .nil, n => simp; exact .nil
  | .cons p t, 0 => exact t
  | .cons p t, n + 1 => exact .cons p (RpL.erase t n)
theorem RpL.dropLast {vs : List V} {ds : List D} (r : RpL K S ad vs ds) : RpL K S ad vs.dropLast ds.dropLast := by
  rw [List.dropLast_eq_take, List.dropLast_eq_take, r.length]
  exact r.take _
theorem RpL.reverse {vs : List V} {ds : List D} (r : RpL K S ad vs ds) : RpL K S ad vs.reverse ds.reverse := by
  match r with
  | .nil => exact .nil
  | .cons p t =>
    rw [List.reverse_cons, List.reverse_cons]
    exact (RpL.reverse t).append (.cons p .nil)
theorem RpL.ints {ns : List Int} : ∀ {vs : List V}, RpL K S ad vs (ns.map D.int) → vs = ns.map V.int := by
  induction ns with
  | nil => intro vs h; cases h; rfl
  | cons n r ih =>
    intro vs h
    cases h with
    | cons p t =>
      cases p
      rw [ih t]
      rfl
theorem RpL.of_ints (ns : List Int) : RpL K S ad (ns.map V.int) (ns.map D.int) := by
  induction ns with
  | nil => exact .nil
  | cons n r ih => exact .cons (.int n) ih

/-- what a cell's node says of the heap -/
def NdAt (K : PySem.W.Frag) (S : Hp) (ad : Ad) (H : Hp) (a : Addr) : Nd → Prop
  | .lst ds => ∃ xs, H a = some (.lst xs) ∧ RpL K S ad xs ds
  | .dK kvs => ∃ ws : List (Key × V), H a = some (.dK ws) ∧ ws.map (·.1) = kvs.map (·.1) ∧ RpL K S ad (ws.map (·.2)) (kvs.map (·.2))
  | .dT kvs => ∃ ws : List (List Key × V), H a = some (.dT ws) ∧ ws.map (·.1) = kvs.map (·.1) ∧ RpL K S ad (ws.map (·.2)) (kvs.map (·.2))
  | .ins C fs => ∃ (dx : Addr) (ws : List (Str × V)), H a = some (.ins C dx ws) ∧ ws.map (·.1) = fs.map (·.1) ∧ RpL K S ad (ws.map (·.2)) (fs.map (·.2))
  | .lkK o ws kvs => H a = some (.frz o (.dK ws)) ∧ ws.map (·.1) = kvs.map (·.1) ∧ RpL K S ad (ws.map (·.2)) (kvs.map (·.2))
  | .lkT o ws kvs => H a = some (.frz o (.dT ws)) ∧ ws.map (·.1) = kvs.map (·.1) ∧ RpL K S ad (ws.map (·.2)) (kvs.map (·.2))
theorem NdAt.there {H : Hp} {a : Addr} {x : Nd} (h : NdAt K S ad H a x) : ∃ o, H a = some o := by
  cases x with
  | lst ds => obtain ⟨_, e, _⟩ := h; exact ⟨_, e⟩
  | dK ds => obtain ⟨_, e, _⟩ := h; exact ⟨_, e⟩
  | dT ds => obtain ⟨_, e, _⟩ := h; exact ⟨_, e⟩
  | ins C ds => obtain ⟨_, _, e, _⟩ := h; exact ⟨_, e⟩
  | lkK o ws ds => obtain ⟨e, _⟩ := h; exact ⟨_, e⟩
  | lkT o ws ds => obtain ⟨e, _⟩ := h; exact ⟨_, e⟩
/-- a cell is no tuple -/
theorem NdAt.notup {H : Hp} {a : Addr} {x : Nd} {xs : List V} (h : NdAt K S ad H a x) (q : H a = some (.tup xs)) : False := by
  cases x with
  | lst ds => obtain ⟨_, e, _⟩ := h; rw [q] at e; cases e
  | dK ds => obtain ⟨_, e, _⟩ := h; rw [q] at e; cases e
  | dT ds => obtain ⟨_, e, _⟩ := h; rw [q] at e; cases e
  | ins C ds => obtain ⟨_, _, e, _⟩ := h; rw [q] at e; cases e
  | lkK o ws ds => obtain ⟨e, _⟩ := h; rw [q] at e; cases e
  | lkT o ws ds => obtain ⟨e, _⟩ := h; rw [q] at e; cases e
theorem NdAt.mono {H H' : Hp} {a : Addr} {x : Nd} (e : Same S S') (p : ∀ (n : Nat) (a : Addr), ad[n]? = some a → ad'[n]? = some a) (g : ∀ o, H a = some o → H' a = some o) (h : NdAt K S ad H a x) : NdAt K S' ad' H' a x := by
  cases x with
  | lst ds => obtain ⟨xs, h1, h2⟩ := h; exact ⟨xs, g _ h1, h2.mono e p⟩
  | dK ds => obtain ⟨xs, h1, h2, h3⟩ := h; exact ⟨xs, g _ h1, h2, h3.mono e p⟩
  | dT ds => obtain ⟨xs, h1, h2, h3⟩ := h; exact ⟨xs, g _ h1, h2, h3.mono e p⟩
  | ins C ds => obtain ⟨dx, xs, h1, h2, h3⟩ := h; exact ⟨dx, xs, g _ h1, h2, h3.mono e p⟩
  | lkK o ws ds => obtain ⟨h1, h2, h3⟩ := h; exact ⟨g _ h1, h2, h3.mono e p⟩
  | lkT o ws ds => obtain ⟨h1, h2, h3⟩ := h; exact ⟨g _ h1, h2, h3.mono e p⟩
end

/-- data in the heap: S what never changes again, ad where the cells stand; (H0, S0, ad0): the entry, whose other things stay -/
structure Core (K : PySem.W.Frag) (H0 S0 : Hp) (ad0 : Ad) (S : Hp) (ad : Ad) (tmp : List (V × D)) (ρ : Ro) (μ : Mu) (σ : L2.St) (H : Hp) : Prop where
  kp : ∀ b o, H0 b = some o → b ∉ ad → H b = some o
  s0 : Same S0 S
  sn : ∀ b o, S b = some o → S0 b = some o ∨ H0 b = none ∨ ∃ xs, H0 b = some (.tup xs)
  sh : Same S H
  a0 : ∃ more, ad = ad0 ++ more ∧ ∀ a ∈ more, H0 a = none
  as : ∀ a ∈ ad, S a = none
  nd : ad.Nodup
  al : ad.length = μ.length
  at_ : ∀ (n : Nat) (a : Addr) (x : Nd), ad[n]? = some a → μ[n]? = some x → NdAt K S ad H a x
  ln : ρ.length = σ.length
  sl : ∀ (i : Nat) (d : D), ρ[i]? = some (some d) → ∃ v, σ[i]? = some (some v) ∧ Rp K S ad v d
  tm : ∀ p ∈ tmp, Rp K S ad p.1 p.2
def Rel (K : PySem.W.Frag) (H0 S0 : Hp) (ad0 : Ad) (tmp : List (V × D)) (ρ : Ro) (μ : Mu) (σ : L2.St) (H : Hp) : Prop := ∃ S ad, Core K H0 S0 ad0 S ad tmp ρ μ σ H

section
variable {K : PySem.W.Frag} {H0 S0 : Hp} {ad0 : Ad} {S S' : Hp} {ad ad' : Ad} {tmp tmp' : List (V × D)} {ρ ρ' : Ro} {μ μ' : Mu} {σ σ' : L2.St} {H H' : Hp} {p : Addr} {v : V} {d : D}
theorem Core.live (c : Core K H0 S0 ad0 S ad tmp ρ μ σ H) {a : Addr} (h : a ∈ ad) : ∃ o, H a = some o := by
  obtain ⟨n, hn⟩ := List.getElem?_of_mem h
  have hl : n < ad.length := (List.getElem?_eq_some_iff.mp hn).1
  rw [c.al] at hl
  exact (c.at_ n a μ[n] hn (List.getElem?_eq_getElem hl)).there
theorem Core.notup (c : Core K H0 S0 ad0 S ad tmp ρ μ σ H) {a : Addr} {xs : List V} (q : H a = some (.tup xs)) : a ∉ ad := fun h => by
  obtain ⟨n, hn⟩ := List.getElem?_of_mem h
  have hl : n < ad.length := (List.getElem?_eq_some_iff.mp hn).1
  rw [c.al] at hl
  exact (c.at_ n a μ[n] hn (List.getElem?_eq_getElem hl)).notup q
theorem Core.fresh (c : Core K H0 S0 ad0 S ad tmp ρ μ σ H) (h : H p = none) : S p = none ∧ p ∉ ad ∧ H0 p = none := by
  have h1 : p ∉ ad := fun m => by
    obtain ⟨o, e⟩ := c.live m
    rw [h] at e; cases e
  refine ⟨?_, h1, ?_⟩
  · cases e : S p with
    | none => rfl
    | some o => rw [c.sh p o e] at h; cases h
  · cases e : H0 p with
    | none => rfl
    | some o => rw [c.kp p o e h1] at h; cases h
theorem same_new {o : HO} (h : H p = none) : Same H (upd H p o) := fun b u e => by rw [upd_ne (ne_of_none e h)]; exact e
theorem adp_refl : ∀ (n : Nat) (a : Addr), ad[n]? = some a → ad[n]? = some a := fun _ _ h => h
theorem adp_more {more : Ad} : ∀ (n : Nat) (a : Addr), ad[n]? = some a → (ad ++ more)[n]? = some a := fun n a h => by
  rw [List.getElem?_append_left (List.getElem?_eq_some_iff.mp h).1]; exact h
/-- a thing that never changes is new -/
theorem Core.stab (c : Core K H0 S0 ad0 S ad tmp ρ μ σ H) (h : H p = none) (o : HO) : Core K H0 S0 ad0 (upd S p o) ad tmp ρ μ σ (upd H p o) := by
  obtain ⟨hs, ha, h0⟩ := c.fresh h
  have e : Same S (upd S p o) := same_new hs
  refine ⟨fun b u e1 e2 => ?_, fun b u e1 => e b u (c.s0 b u e1), fun b u e1 => ?_, fun b u e1 => ?_, c.a0, fun a m => ?_, c.nd, c.al, fun n a x h1 h2 => ?_, c.ln, fun i d hd => ?_, fun q m => (c.tm q m).mono e adp_refl⟩
  · rw [upd_ne (ne_of_none e1 h0)]; exact c.kp b u e1 e2
  · by_cases hb : b = p
    · subst hb; exact .inr (.inl h0)
    · rw [upd_ne hb] at e1; exact c.sn b u e1
  · by_cases hb : b = p
    · subst hb; rw [upd_same] at e1 ⊢; exact e1
    · rw [upd_ne hb] at e1 ⊢; exact c.sh b u e1
  · have hne : a ≠ p := fun z => ha (by rw [← z]; exact m)
    rw [upd_ne hne]; exact c.as a m
  · have m : a ∈ ad := List.mem_of_getElem? h1
    exact (c.at_ n a x h1 h2).mono e adp_refl fun o e1 => by rw [upd_ne (ne_of_none e1 h)]; exact e1
  · obtain ⟨v, h1, h2⟩ := c.sl i d hd
    exact ⟨v, h1, h2.mono e adp_refl⟩
theorem Core.cell (c : Core K H0 S0 ad0 S ad tmp ρ μ σ H) (h : H p = none) {o : HO} {x : Nd} (hx : NdAt K S (ad ++ [p]) (upd H p o) p x) : Core K H0 S0 ad0 S (ad ++ [p]) tmp ρ (μ ++ [x]) σ (upd H p o) := by
  obtain ⟨hs, ha, h0⟩ := c.fresh h
  refine ⟨fun b u e1 e2 => ?_, c.s0, c.sn, fun b u e1 => ?_, ?_, fun a m => ?_, ?_, ?_, fun n a y h1 h2 => ?_, c.ln, fun i d hd => ?_, fun q m => (c.tm q m).mono (Same.refl S) adp_more⟩
  · have : b ∉ ad := fun m => e2 (List.mem_append_left _ m)
    rw [upd_ne (ne_of_none e1 h0)]; exact c.kp b u e1 this
  · rw [upd_ne (ne_of_none e1 hs)]; exact c.sh b u e1
  · obtain ⟨more, e, k⟩ := c.a0
    refine ⟨more ++ [p], by rw [e, List.append_assoc], fun a m => ?_⟩
    rcases List.mem_append.mp m with m | m
    · exact k a m
    · cases List.mem_singleton.mp m; exact h0
  · rcases List.mem_append.mp m with m | m
    · exact c.as a m
    · cases List.mem_singleton.mp m; exact hs
  · exact List.nodup_append.mpr ⟨c.nd, by simp, fun a m b m' => by cases List.mem_singleton.mp m'; exact fun z => ha (by rw [← z]; exact m)⟩
  · rw [List.length_append, List.length_append, c.al] <;> rfl
  · by_cases hn : n < ad.length
    · rw [List.getElem?_append_left hn] at h1
      rw [List.getElem?_append_left (by rw [← c.al]; exact hn)] at h2
      exact (c.at_ n a y h1 h2).mono (Same.refl S) adp_more fun o e1 => by rw [upd_ne (ne_of_none e1 h)]; exact e1
    · have e1 : n = ad.length := by
        have := (List.getElem?_eq_some_iff.mp h1).1
        rw [List.length_append] at this
        have : n < ad.length + 1 := this
        omega
      subst e1
      rw [List.getElem?_append_right (Nat.le_refl _)] at h1
      rw [List.getElem?_append_right (by rw [c.al]; exact Nat.le_refl _)] at h2
      rw [c.al] at h2
      simp at h1 h2
      subst h1; subst h2
      exact hx
  · obtain ⟨v, h1, h2⟩ := c.sl i d hd
    exact ⟨v, h1, h2.mono (Same.refl S) adp_more⟩
/-- a tuple that stands is stable -/
theorem Core.tupS (c : Core K H0 S0 ad0 S ad tmp ρ μ σ H) {xs : List V} (h : H p = some (.tup xs)) : Core K H0 S0 ad0 (upd S p (.tup xs)) ad tmp ρ μ σ H := by
  have e : Same S (upd S p (.tup xs)) := fun b u e1 => by
    by_cases hb : b = p
    · subst hb; have := c.sh _ _ e1; rw [h] at this; rw [upd_same]; exact this
    · rw [upd_ne hb]; exact e1
  refine { c with s0 := fun b u e1 => e b u (c.s0 b u e1), sn := fun b u e1 => ?_, sh := fun b u e1 => ?_, as := fun a m => ?_, at_ := fun n a x e1 e2 => (c.at_ n a x e1 e2).mono e adp_refl fun _ z => z, sl := fun i d hd => ?_, tm := fun q m => (c.tm q m).mono e adp_refl }
  · by_cases hb : b = p
    · subst hb
      rw [upd_same] at e1
      cases e0 : H0 b with
      | none => exact .inr (.inl rfl)
      | some u' =>
        have q := c.kp b u' e0 (c.notup h)
        rw [h] at q
        cases q
        exact .inr (.inr ⟨_, rfl⟩)
    · rw [upd_ne hb] at e1; exact c.sn b u e1
  · by_cases hb : b = p
    · subst hb; rw [upd_same] at e1; rw [h]; exact e1
    · rw [upd_ne hb] at e1; exact c.sh b u e1
  · have hne : a ≠ p := fun z => c.notup h (by rw [← z]; exact m)
    rw [upd_ne hne]; exact c.as a m
  · obtain ⟨v, g1, g2⟩ := c.sl i d hd
    exact ⟨v, g1, g2.mono e adp_refl⟩
/-- a cell is written -/
theorem Core.wr (c : Core K H0 S0 ad0 S ad tmp ρ μ σ H) {n : Nat} {a : Addr} (ha : ad[n]? = some a) {o : HO} {x : Nd} (hx : NdAt K S ad (upd H a o) a x) : Core K H0 S0 ad0 S ad tmp ρ (μ.set n x) σ (upd H a o) := by
  have m0 : a ∈ ad := List.mem_of_getElem? ha
  refine ⟨fun b u e1 e2 => ?_, c.s0, c.sn, fun b u e1 => ?_, c.a0, c.as, c.nd, by rw [List.length_set]; exact c.al, fun k b y h1 h2 => ?_, c.ln, c.sl, c.tm⟩
  · rw [upd_ne (fun z => e2 (by rw [z]; exact m0))]; exact c.kp b u e1 e2
  · rw [upd_ne (fun z => by rw [z, c.as a m0] at e1; cases e1)]; exact c.sh b u e1
  · by_cases hk : k = n
    · subst hk
      have hl : k < μ.length := by rw [← c.al]; exact (List.getElem?_eq_some_iff.mp h1).1
      rw [List.getElem?_set_self hl] at h2
      rw [ha] at h1
      cases h1; cases h2
      exact hx
    · rw [List.getElem?_set_ne (fun z => hk z.symm)] at h2
      have hne : b ≠ a := fun z => hk (by subst z; exact (nd_ix c.nd h1 ha))
      exact (c.at_ k b y h1 h2).mono (Same.refl S) adp_refl fun o e1 => by rw [upd_ne hne]; exact e1
theorem Core.tmps (c : Core K H0 S0 ad0 S ad tmp ρ μ σ H) (h : ∀ p ∈ tmp', Rp K S ad p.1 p.2) : Core K H0 S0 ad0 S ad tmp' ρ μ σ H := { c with tm := h }
theorem Core.push (c : Core K H0 S0 ad0 S ad tmp ρ μ σ H) (h : Rp K S ad v d) : Core K H0 S0 ad0 S ad ((v, d) :: tmp) ρ μ σ H := c.tmps fun q m => by
  rcases List.mem_cons.mp m with e | m
  · subst e; exact h
  · exact c.tm q m
theorem Core.pop {q : V × D} (c : Core K H0 S0 ad0 S ad (q :: tmp) ρ μ σ H) : Core K H0 S0 ad0 S ad tmp ρ μ σ H := c.tmps fun r m => c.tm r (List.mem_cons_of_mem _ m)
theorem Core.hd {q : V × D} (c : Core K H0 S0 ad0 S ad (q :: tmp) ρ μ σ H) : Rp K S ad q.1 q.2 := c.tm q List.mem_cons_self
theorem Core.setv (c : Core K H0 S0 ad0 S ad tmp ρ μ σ H) (h : Rp K S ad v d) (i : Nat) : Core K H0 S0 ad0 S ad tmp (ρ.set i (some d)) μ (σ.set i (some v)) H := by
  refine { c with ln := by rw [List.length_set, List.length_set]; exact c.ln, sl := fun j e hj => ?_ }
  by_cases hji : j = i
  · subst hji
    have hl : j < ρ.length := by
      have := (List.getElem?_eq_some_iff.mp hj).1
      rw [List.length_set] at this; exact this
    rw [List.getElem?_set_self hl] at hj
    cases hj
    exact ⟨v, by rw [List.getElem?_set_self (by rw [← c.ln]; exact hl)], h⟩
  · rw [List.getElem?_set_ne (fun z => hji z.symm)] at hj ⊢
    exact c.sl j e hj
theorem Core.unset (c : Core K H0 S0 ad0 S ad tmp ρ μ σ H) (i : Nat) : Core K H0 S0 ad0 S ad tmp (ρ.set i none) μ (σ.set i none) H := by
  refine { c with ln := by rw [List.length_set, List.length_set]; exact c.ln, sl := fun j e hj => ?_ }
  by_cases hji : j = i
  · subst hji
    have hl : j < ρ.length := by
      have := (List.getElem?_eq_some_iff.mp hj).1
      rw [List.length_set] at this; exact this
    rw [List.getElem?_set_self hl] at hj
    cases hj
  · rw [List.getElem?_set_ne (fun z => hji z.symm)] at hj ⊢
    exact c.sl j e hj
/-- from here on: a new entry -/
theorem Core.here (c : Core K H0 S0 ad0 S ad tmp ρ μ σ H) : Core K H S ad S ad tmp ρ μ σ H :=
  ⟨fun _ _ e _ => e, Same.refl S, fun _ _ e => .inl e, c.sh, ⟨[], by simp, by simp⟩, c.as, c.nd, c.al, c.at_, c.ln, c.sl, c.tm⟩
/-- what was done from a later entry on -/
theorem Core.trans {tmp2 : List (V × D)} {ρ2 : Ro} {μ2 : Mu} {σ2 : L2.St} (c : Core K H0 S0 ad0 S ad tmp ρ μ σ H) (c' : Core K H S ad S' ad' tmp2 ρ2 μ2 σ2 H') : Core K H0 S0 ad0 S' ad' tmp2 ρ2 μ2 σ2 H' := by
  obtain ⟨more, e1, k1⟩ := c.a0
  obtain ⟨more', e2, k2⟩ := c'.a0
  refine { c' with kp := fun b o e n => ?_, s0 := fun b o e => c'.s0 b o (c.s0 b o e), sn := fun b o e => ?_, a0 := ⟨more ++ more', by rw [e2, e1, List.append_assoc], fun a m => ?_⟩ }
  · exact c'.kp b o (c.kp b o e fun m => n (by rw [e2]; exact List.mem_append_left _ m)) n
  · rcases c'.sn b o e with h | h | ⟨xs, h⟩
    · exact c.sn b o h
    · exact .inr (.inl (c.fresh h).2.2)
    · cases e0 : H0 b with
      | none => exact .inr (.inl rfl)
      | some u =>
        have q := c.kp b u e0 (c.notup h)
        rw [h] at q
        cases q
        exact .inr (.inr ⟨_, rfl⟩)
  · rcases List.mem_append.mp m with m | m
    · exact k1 a m
    · exact (c.fresh (k2 a m)).2.2
/-- the frame: what stood ahead of a later entry's end stands -/
theorem Core.adp (c : Core K H0 S0 ad0 S ad tmp ρ μ σ H) : ∀ (n : Nat) (a : Addr), ad0[n]? = some a → ad[n]? = some a := by
  obtain ⟨more, e, _⟩ := c.a0
  rw [e]; exact adp_more
/-- the slots and temporaries of ahead, behind what left them alone -/
theorem Core.keep {tmp2 : List (V × D)} {ρ2 : Ro} {σ2 : L2.St} (c : Core K H0 S0 ad0 S ad tmp ρ μ σ H) (c' : Core K H S ad S' ad' tmp2 ρ2 μ' σ2 H') : Core K H0 S0 ad0 S' ad' (tmp2 ++ tmp) ρ μ' σ H' := by
  have t := c.trans c'
  refine { t with ln := c.ln, sl := fun i d h => ?_, tm := fun q m => ?_ }
  · obtain ⟨v, h1, h2⟩ := c.sl i d h
    exact ⟨v, h1, h2.mono c'.s0 c'.adp⟩
  · rcases List.mem_append.mp m with m | m
    · exact c'.tm q m
    · exact (c.tm q m).mono c'.s0 c'.adp
end

/-! ### results -/
inductive Res (α : Type) where
  | val (a : α) (μ : Mu)
  | exc (x : Ex) (μ : Mu)
  | fail
def Res.bind {α β : Type} (r : Res α) (k : α → Mu → Res β) : Res β := match r with
  | .val a μ => k a μ
  | .exc x μ => .exc x μ
  | .fail => .fail
@[simp] theorem bind_val {α β : Type} (a : α) (μ : Mu) (k : α → Mu → Res β) : (Res.val a μ).bind k = k a μ := rfl
@[simp] theorem bind_exc {α β : Type} (x : Ex) (μ : Mu) (k : α → Mu → Res β) : (Res.exc x μ : Res α).bind k = .exc x μ := rfl
@[simp] theorem bind_fail {α β : Type} (k : α → Mu → Res β) : (Res.fail : Res α).bind k = .fail := rfl
inductive Out where
  | nx (ρ : Ro) (μ : Mu) | ret (d : D) (μ : Mu) | bk (ρ : Ro) (μ : Mu) | ct (ρ : Ro) (μ : Mu) | exc (x : Ex) (ρ : Ro) (μ : Mu) | fail
abbrev EF := Ro → Mu → Res D
abbrev TF := Ro → Mu → Res Bool
abbrev AF := Ro → Mu → Res (List D)
abbrev SF := Ro → Mu → Out
/-- what is wished for where an exception leaves -/
abbrev WX := Value → Option Addr → L2.St → Hp → Prop
/-- an exception in flight -/
def RelX (K : PySem.W.Frag) (H0 S0 : Hp) (ad0 : Ad) (tmp : List (V × D)) (ρ : Ro) (μ : Mu) (σ : L2.St) (H : Hp) (x : Ex) (cls : Value) (dd : Option Addr) : Prop :=
  cls = x.cls ∧ ∃ S ad, Core K H0 S0 ad0 S ad tmp ρ μ σ H ∧ (x.fs = [] ∨ ∃ (a : Addr) (ws : List (Str × V)), dd = some a ∧ S a = some (.xd ws) ∧ ws.map (·.1) = x.fs.map (·.1) ∧ RpL K S ad (ws.map (·.2)) (x.fs.map (·.2)))
def PostE (K : PySem.W.Frag) (W : WX) (H0 S0 : Hp) (ad0 : Ad) (tmp : List (V × D)) (ρ : Ro) (σ : L2.St) (Q : VK) : Res D → Prop
  | .val d μ => ∀ v H, Rel K H0 S0 ad0 ((v, d) :: tmp) ρ μ σ H → Q v H
  | .exc x μ => ∀ cls dd H, RelX K H0 S0 ad0 tmp ρ μ σ H x cls dd → W cls dd σ H
  | .fail => False
def PostT (K : PySem.W.Frag) (W : WX) (H0 S0 : Hp) (ad0 : Ad) (tmp : List (V × D)) (ρ : Ro) (σ : L2.St) (Q : Bool → Hp → Prop) : Res Bool → Prop
  | .val b μ => ∀ H, Rel K H0 S0 ad0 tmp ρ μ σ H → Q b H
  | .exc x μ => ∀ cls dd H, RelX K H0 S0 ad0 tmp ρ μ σ H x cls dd → W cls dd σ H
  | .fail => False
def PostA (K : PySem.W.Frag) (W : WX) (H0 S0 : Hp) (ad0 : Ad) (tmp : List (V × D)) (ρ : Ro) (σ : L2.St) (Q : List V → Hp → Prop) : Res (List D) → Prop
  | .val ds μ => ∀ vs H, vs.length = ds.length → Rel K H0 S0 ad0 (vs.zip ds ++ tmp) ρ μ σ H → Q vs H
  | .exc x μ => ∀ cls dd H, RelX K H0 S0 ad0 tmp ρ μ σ H x cls dd → W cls dd σ H
  | .fail => False
def PostS (K : PySem.W.Frag) (W : WX) (H0 S0 : Hp) (ad0 : Ad) (tmp : List (V × D)) (D : Ends) : Out → Prop
  | .nx ρ μ => ∀ σ H, Rel K H0 S0 ad0 tmp ρ μ σ H → D.nx σ H
  | .bk ρ μ => ∀ σ H, Rel K H0 S0 ad0 tmp ρ μ σ H → D.bk σ H
  | .ct ρ μ => ∀ σ H, Rel K H0 S0 ad0 tmp ρ μ σ H → D.ct σ H
  | .ret d μ => ∀ v ρ σ H, Rel K H0 S0 ad0 ((v, d) :: tmp) ρ μ σ H → D.rt v H
  | .exc x ρ μ => ∀ cls dd σ H, RelX K H0 S0 ad0 tmp ρ μ σ H x cls dd → W cls dd σ H
  | .fail => False
structure SimE (K : PySem.W.Frag) (W : WX) (t : TE) (f : EF) : Prop where
  run : ∀ {H0 S0 : Hp} {ad0 : Ad} {tmp : List (V × D)} {ρ : Ro} {μ : Mu} {σ : L2.St} {H : Hp} {Q : VK}, Rel K H0 S0 ad0 tmp ρ μ σ H → PostE K W H0 S0 ad0 tmp ρ σ Q (f ρ μ) → t σ H Q
structure SimT (K : PySem.W.Frag) (W : WX) (t : TT) (f : TF) : Prop where
  run : ∀ {H0 S0 : Hp} {ad0 : Ad} {tmp : List (V × D)} {ρ : Ro} {μ : Mu} {σ : L2.St} {H : Hp} {Q : Bool → Hp → Prop}, Rel K H0 S0 ad0 tmp ρ μ σ H → PostT K W H0 S0 ad0 tmp ρ σ Q (f ρ μ) → t σ H Q
structure SimA (K : PySem.W.Frag) (W : WX) (t : TA) (f : AF) : Prop where
  run : ∀ {H0 S0 : Hp} {ad0 : Ad} {tmp : List (V × D)} {ρ : Ro} {μ : Mu} {σ : L2.St} {H : Hp} {Q : List V → Hp → Prop}, Rel K H0 S0 ad0 tmp ρ μ σ H → PostA K W H0 S0 ad0 tmp ρ σ Q (f ρ μ) → t σ H Q
structure SimS (K : PySem.W.Frag) (W : WX) (t : TS) (f : SF) : Prop where
  run : ∀ {H0 S0 : Hp} {ad0 : Ad} {tmp : List (V × D)} {ρ : Ro} {μ : Mu} {σ : L2.St} {H : Hp} {E : Ends}, Rel K H0 S0 ad0 tmp ρ μ σ H → PostS K W H0 S0 ad0 tmp E (f ρ μ) → t E σ H
/-- an operation on two values -/
abbrev GF := D → D → Mu → Res D
structure SimO (K : PySem.W.Frag) (W : WX) (r : R2) (g : GF) : Prop where
  run : ∀ {H0 S0 : Hp} {ad0 : Ad} {tmp : List (V × D)} {ρ : Ro} {μ : Mu} {σ : L2.St} {H : Hp} {Q : VK} {x y : V} {d e : D}, Rel K H0 S0 ad0 ((y, e) :: (x, d) :: tmp) ρ μ σ H → PostE K W H0 S0 ad0 tmp ρ σ Q (g d e μ) → r x y H Q
/-! ### the judgements -/
def DE (X : Cx) (W : WX) (e : Expr) (f : EF) : Prop := ∃ t, PE X e t ∧ SimE X.K W t f
def DT (X : Cx) (W : WX) (e : Expr) (f : TF) : Prop := ∃ t, PT X e t ∧ SimT X.K W t f
def DW (X : Cx) (W : WX) (e : Expr) (f : TF) : Prop := ∃ t, PW X e t ∧ SimT X.K W t f
def DA (X : Cx) (W : WX) (es : List Expr) (f : AF) : Prop := ∃ t, PA X es t ∧ SimA X.K W t f
def DS (X : Cx) (W : WX) (st : Stmt) (f : SF) : Prop := ∃ t, PS X st t ∧ SimS X.K W t f
def DSs (X : Cx) (W : WX) (st : List Stmt) (f : SF) : Prop := ∃ t, PSs X st t ∧ SimS X.K W t f
end Dn

/-! Dn2: expressions, tests, statements, loops. -/
namespace Dn
open PySem PySem.Spec PyProof.Rows L2

section
variable {K : PySem.W.Frag} {W : WX} {H0 S0 : Hp} {ad0 : Ad} {tmp tmp' : List (V × D)} {ρ ρ' : Ro} {μ μ' : Mu} {σ σ' : L2.St} {H H' : Hp} {x y v : V} {d e : D} {q : V × D}
theorem Rel.pop (r : Rel K H0 S0 ad0 (q :: tmp) ρ μ σ H) : Rel K H0 S0 ad0 tmp ρ μ σ H := let ⟨S, ad, c⟩ := r; ⟨S, ad, c.pop⟩
theorem Rel.two (r : Rel K H0 S0 ad0 ((y, e) :: (x, d) :: tmp) ρ μ σ H) : ∃ S ad, Core K H0 S0 ad0 S ad tmp ρ μ σ H ∧ Rp K S ad x d ∧ Rp K S ad y e := let ⟨S, ad, c⟩ := r; ⟨S, ad, c.pop.pop, c.pop.hd, c.hd⟩
theorem Rel.one (r : Rel K H0 S0 ad0 ((x, d) :: tmp) ρ μ σ H) : ∃ S ad, Core K H0 S0 ad0 S ad tmp ρ μ σ H ∧ Rp K S ad x d := let ⟨S, ad, c⟩ := r; ⟨S, ad, c.pop, c.hd⟩
theorem Rel.sub (r : Rel K H0 S0 ad0 tmp ρ μ σ H) (h : ∀ p ∈ tmp', p ∈ tmp) : Rel K H0 S0 ad0 tmp' ρ μ σ H := let ⟨S, ad, c⟩ := r; ⟨S, ad, c.tmps fun p m => c.tm p (h p m)⟩
theorem RelX.sub {x : Ex} {cls : Value} {dd : Option Addr} (r : RelX K H0 S0 ad0 tmp ρ μ σ H x cls dd) (h : ∀ p ∈ tmp', p ∈ tmp) : RelX K H0 S0 ad0 tmp' ρ μ σ H x cls dd :=
  let ⟨e, S, ad, c, k⟩ := r; ⟨e, S, ad, c.tmps fun p m => c.tm p (h p m), k⟩
theorem RelX.pop {x : Ex} {cls : Value} {dd : Option Addr} (r : RelX K H0 S0 ad0 (q :: tmp) ρ μ σ H x cls dd) : RelX K H0 S0 ad0 tmp ρ μ σ H x cls dd := r.sub fun _ m => List.mem_cons_of_mem _ m
/-- a value that holds whatever the heap is -/
def Flat (v : V) (d : D) : Prop := ∀ (K : PySem.W.Frag) (S : Hp) (ad : Ad), Rp K S ad v d
theorem flat_int (i : Int) : Flat (.int i) (.int i) := fun _ _ _ => .int i
theorem flat_bl (i : Bool) : Flat (.bl i) (.bl i) := fun _ _ _ => .bl i
theorem flat_str (i : Str) : Flat (.str i) (.str i) := fun _ _ _ => .str i
theorem flat_non : Flat .non .non := fun _ _ _ => .non
theorem Core.flat {S : Hp} {ad : Ad} (c : Core K H0 S0 ad0 S ad tmp ρ μ σ H) (f : Flat v d) : Rel K H0 S0 ad0 ((v, d) :: tmp) ρ μ σ H := ⟨S, ad, c.push (f K S ad)⟩
theorem Rel.flat (r : Rel K H0 S0 ad0 tmp ρ μ σ H) (f : Flat v d) : Rel K H0 S0 ad0 ((v, d) :: tmp) ρ μ σ H := let ⟨S, ad, c⟩ := r; c.flat f

/-! ### expressions -/
@[simp] def eVar (i : Nat) : EF := fun ρ μ => match ρ[i]? with
  | some (some d) => .val d μ
  | _ => .fail
theorem simE_var (i : Nat) : SimE K W (tVar i) (eVar i) := ⟨fun {H0 S0 ad0 tmp ρ μ σ H Q} r h => by
  obtain ⟨S, ad, c⟩ := r
  unfold eVar at h
  split at h
  · rename_i d hd
    obtain ⟨v, h1, h2⟩ := c.sl i d hd
    exact ⟨v, h1, h v H ⟨S, ad, c.push h2⟩⟩
  · exact h.elim⟩
@[simp] def eC (d : D) : EF := fun _ μ => .val d μ
theorem simE_c (f : Flat v d) : SimE K W (tC v) (eC d) := ⟨fun r h => h v _ (r.flat f)⟩
@[simp] def eOp (g : GF) (a b : EF) : EF := fun ρ μ => (a ρ μ).bind fun x μ1 => (b ρ μ1).bind fun y μ2 => g x y μ2
theorem simE_op {ta tb : TE} {fa fb : EF} {r : R2} {g : GF} (ha : SimE K W ta fa) (hb : SimE K W tb fb) (hr : SimO K W r g) : SimE K W (tOp r ta tb) (eOp g fa fb) := ⟨fun {H0 S0 ad0 tmp ρ μ σ H Q} R h => by
  refine ha.run R ?_
  unfold eOp at h
  cases e1 : fa ρ μ with
  | fail => rw [e1] at h; exact h.elim
  | exc x μ1 => rw [e1] at h; exact h
  | val d1 μ1 =>
    rw [e1] at h
    intro v1 H1 R1
    refine hb.run R1 ?_
    have h : PostE K W H0 S0 ad0 tmp ρ σ Q ((fb ρ μ1).bind fun y μ2 => g d1 y μ2) := h
    cases e2 : fb ρ μ1 with
    | fail => rw [e2] at h; exact h.elim
    | exc x μ1 => rw [e2] at h; exact fun cls dd H r => h cls dd H r.pop
    | val d2 μ2 =>
      rw [e2] at h
      intro v2 H2 R2
      exact hr.run R2 h⟩
@[simp] def eUn (g : D → Mu → Res D) (a : EF) : EF := fun ρ μ => (a ρ μ).bind g
/-- an operation on one value -/
structure SimU (K : PySem.W.Frag) (W : WX) (r : V → Hp → VK → Prop) (g : D → Mu → Res D) : Prop where
  run : ∀ {H0 S0 : Hp} {ad0 : Ad} {tmp : List (V × D)} {ρ : Ro} {μ : Mu} {σ : L2.St} {H : Hp} {Q : VK} {x : V} {d : D}, Rel K H0 S0 ad0 ((x, d) :: tmp) ρ μ σ H → PostE K W H0 S0 ad0 tmp ρ σ Q (g d μ) → r x H Q
theorem simE_un {ta : TE} {fa : EF} {r : V → Hp → VK → Prop} {g : D → Mu → Res D} (ha : SimE K W ta fa) (hr : SimU K W r g) : SimE K W (tUn r ta) (eUn g fa) := ⟨fun {H0 S0 ad0 tmp ρ μ σ H Q} R h => by
  refine ha.run R ?_
  unfold eUn at h
  cases e1 : fa ρ μ with
  | fail => rw [e1] at h; exact h.elim
  | exc x μ1 => rw [e1] at h; exact h
  | val d1 μ1 =>
    rw [e1] at h
    exact fun v1 H1 R1 => hr.run R1 h⟩
/-- an operation on a list of values -/
structure SimC (K : PySem.W.Frag) (W : WX) (r : List V → Hp → VK → Prop) (g : List D → Mu → Res D) : Prop where
  run : ∀ {H0 S0 : Hp} {ad0 : Ad} {tmp : List (V × D)} {ρ : Ro} {μ : Mu} {σ : L2.St} {H : Hp} {Q : VK} {xs : List V} {ds : List D}, xs.length = ds.length → Rel K H0 S0 ad0 (xs.zip ds ++ tmp) ρ μ σ H → PostE K W H0 S0 ad0 tmp ρ σ Q (g ds μ) → r xs H Q
@[simp] def aNil : AF := fun _ μ => .val [] μ
@[simp] def aCons (f : EF) (g : AF) : AF := fun ρ μ => (f ρ μ).bind fun x μ1 => (g ρ μ1).bind fun xs μ2 => .val (x :: xs) μ2
theorem simA_nil : SimA K W tNil aNil := ⟨fun r h => h [] _ rfl r⟩
theorem simA_cons {te : TE} {tr : TA} {f : EF} {g : AF} (he : SimE K W te f) (hr : SimA K W tr g) : SimA K W (tCons te tr) (aCons f g) := ⟨fun {H0 S0 ad0 tmp ρ μ σ H Q} R h => by
  refine he.run R ?_
  unfold aCons at h
  cases e1 : f ρ μ with
  | fail => rw [e1] at h; exact h.elim
  | exc x μ1 => rw [e1] at h; exact h
  | val d1 μ1 =>
    rw [e1] at h
    intro v1 H1 R1
    refine hr.run R1 ?_
    have h : PostA K W H0 S0 ad0 tmp ρ σ Q ((g ρ μ1).bind fun xs μ2 => .val (d1 :: xs) μ2) := h
    cases e2 : g ρ μ1 with
    | fail => rw [e2] at h; exact h.elim
    | exc x μ1 => rw [e2] at h; exact fun cls dd H r => h cls dd H r.pop
    | val d2 μ2 =>
      rw [e2] at h
      intro vs H2 hl R2
      refine h (v1 :: vs) H2 (by rw [List.length_cons, List.length_cons, hl]) (R2.sub fun p m => ?_)
      rcases List.mem_append.mp m with m | m
      · rcases List.mem_cons.mp m with m | m
        · exact List.mem_append_right _ (by rw [m]; exact List.mem_cons_self)
        · exact List.mem_append_left _ m
      · exact List.mem_append_right _ (List.mem_cons_of_mem _ m)⟩
@[simp] def eCB (g : List D → Mu → Res D) (a : AF) : EF := fun ρ μ => (a ρ μ).bind g
theorem simE_cb {ta : TA} {fa : AF} {r : List V → Hp → VK → Prop} {g : List D → Mu → Res D} (ha : SimA K W ta fa) (hr : SimC K W r g) : SimE K W (tCB r ta) (eCB g fa) := ⟨fun {H0 S0 ad0 tmp ρ μ σ H Q} R h => by
  refine ha.run R ?_
  unfold eCB at h
  cases e1 : fa ρ μ with
  | fail => rw [e1] at h; exact h.elim
  | exc x μ1 => rw [e1] at h; exact h
  | val d1 μ1 =>
    rw [e1] at h
    exact fun v1 H1 hl R1 => hr.run hl R1 h⟩
/-! the lists of temporaries as one fact -/
theorem rpL_zip {S : Hp} {ad : Ad} : ∀ {xs : List V} {ds : List D}, xs.length = ds.length → (∀ p ∈ xs.zip ds, Rp K S ad p.1 p.2) → RpL K S ad xs ds
  | [], [], _, _ => .nil
  | v :: xs, d :: ds, hl, h => .cons (h (v, d) List.mem_cons_self) (rpL_zip (by simpa using hl) fun p m => h p (List.mem_cons_of_mem _ m))
  | [], _ :: _, hl, _ => by simp at hl
  | _ :: _, [], hl, _ => by simp at hl
theorem zip_rpL {S : Hp} {ad : Ad} : ∀ {xs : List V} {ds : List D}, RpL K S ad xs ds → ∀ p ∈ xs.zip ds, Rp K S ad p.1 p.2
  | _, _, .nil, p, m => by simp at m
  | _, _, .cons h t, p, m => by
    rcases List.mem_cons.mp m with e | m
    · subst e; exact h
    · exact zip_rpL t p m
theorem Rel.args {xs : List V} {ds : List D} (hl : xs.length = ds.length) (r : Rel K H0 S0 ad0 (xs.zip ds ++ tmp) ρ μ σ H) : ∃ S ad, Core K H0 S0 ad0 S ad tmp ρ μ σ H ∧ RpL K S ad xs ds := by
  obtain ⟨S, ad, c⟩ := r
  exact ⟨S, ad, c.tmps fun p m => c.tm p (List.mem_append_right _ m), rpL_zip hl fun p m => c.tm p (List.mem_append_left _ m)⟩
/-- a new tuple, a new list -/
@[simp] def eTup (a : AF) : EF := fun ρ μ => (a ρ μ).bind fun ds μ1 => if ds.length ≤ 100000 then .val (.tup ds) μ1 else .fail
@[simp] def eLst (a : AF) : EF := fun ρ μ => (a ρ μ).bind fun ds μ1 => if ds.length ≤ 100000 then .val (.lst ds) μ1 else .fail
/-- a new list that will change -/
@[simp] def eNew (a : AF) : EF := fun ρ μ => (a ρ μ).bind fun ds μ1 => if ds.length ≤ 100000 then .val (.ref μ1.length) (μ1 ++ [.lst ds]) else .fail
theorem sz_of {n : Nat} (h : n ≤ 100000) : n ≤ sizeLine := Nat.le_trans h (by decide)
theorem sz_lt {n : Nat} (h : n < 100000) : n < sizeLine := Nat.lt_of_lt_of_le h (by decide)
theorem newTup {S : Hp} {ad : Ad} {xs : List V} {ds : List D} {p : Addr} (c : Core K H0 S0 ad0 S ad tmp ρ μ σ H) (r : RpL K S ad xs ds) (h : H p = none) : Rel K H0 S0 ad0 ((.ref p, .tup ds) :: tmp) ρ μ σ (upd H p (.tup xs)) :=
  ⟨_, ad, (c.stab h (.tup xs)).push (.tup upd_same (r.mono (same_new (c.fresh h).1) adp_refl))⟩
theorem newLst {S : Hp} {ad : Ad} {xs : List V} {ds : List D} {p : Addr} (c : Core K H0 S0 ad0 S ad tmp ρ μ σ H) (r : RpL K S ad xs ds) (h : H p = none) : Rel K H0 S0 ad0 ((.ref p, .lst ds) :: tmp) ρ μ σ (upd H p (.lst xs)) :=
  ⟨_, ad, (c.stab h (.lst xs)).push (.lst upd_same (r.mono (same_new (c.fresh h).1) adp_refl))⟩
theorem newCell {S : Hp} {ad : Ad} {xs : List V} {ds : List D} {p : Addr} (c : Core K H0 S0 ad0 S ad tmp ρ μ σ H) (r : RpL K S ad xs ds) (h : H p = none) : Rel K H0 S0 ad0 ((.ref p, .ref μ.length) :: tmp) ρ (μ ++ [.lst ds]) σ (upd H p (.lst xs)) := by
  have c2 := c.cell h (o := .lst xs) (x := .lst ds) ⟨xs, upd_same, r.mono (Same.refl S) adp_more⟩
  exact ⟨_, _, c2.push (.ref (by rw [← c.al, List.getElem?_append_right (Nat.le_refl _)]; simp))⟩
theorem simE_tup {ta : TA} {fa : AF} (ha : SimA K W ta fa) : SimE K W (tTup ta) (eTup fa) := ⟨fun {H0 S0 ad0 tmp ρ μ σ H Q} R h => by
  refine ha.run R ?_
  unfold eTup at h
  cases e1 : fa ρ μ with
  | fail => rw [e1] at h; exact h.elim
  | exc x μ1 => rw [e1] at h; exact h
  | val ds μ1 =>
    rw [e1] at h
    intro xs H1 hl R1
    have h : PostE K W H0 S0 ad0 tmp ρ σ Q (if ds.length ≤ 100000 then .val (.tup ds) μ1 else .fail) := h
    split at h
    · rename_i hz
      obtain ⟨S, ad, c, r⟩ := R1.args hl
      exact ⟨sz_of (by rw [hl]; exact hz), fun p hp => h _ _ (newTup c r hp)⟩
    · exact h.elim⟩
theorem simE_lst {ta : TA} {fa : AF} (ha : SimA K W ta fa) : SimE K W (tLst ta) (eLst fa) := ⟨fun {H0 S0 ad0 tmp ρ μ σ H Q} R h => by
  refine ha.run R ?_
  unfold eLst at h
  cases e1 : fa ρ μ with
  | fail => rw [e1] at h; exact h.elim
  | exc x μ1 => rw [e1] at h; exact h
  | val ds μ1 =>
    rw [e1] at h
    intro xs H1 hl R1
    have h : PostE K W H0 S0 ad0 tmp ρ σ Q (if ds.length ≤ 100000 then .val (.lst ds) μ1 else .fail) := h
    split at h
    · rename_i hz
      obtain ⟨S, ad, c, r⟩ := R1.args hl
      exact ⟨sz_of (by rw [hl]; exact hz), fun p hp => h _ _ (newLst c r hp)⟩
    · exact h.elim⟩
theorem simE_new {ta : TA} {fa : AF} (ha : SimA K W ta fa) : SimE K W (tLst ta) (eNew fa) := ⟨fun {H0 S0 ad0 tmp ρ μ σ H Q} R h => by
  refine ha.run R ?_
  unfold eNew at h
  cases e1 : fa ρ μ with
  | fail => rw [e1] at h; exact h.elim
  | exc x μ1 => rw [e1] at h; exact h
  | val ds μ1 =>
    rw [e1] at h
    intro xs H1 hl R1
    have h : PostE K W H0 S0 ad0 tmp ρ σ Q (if ds.length ≤ 100000 then .val (.ref μ1.length) (μ1 ++ [.lst ds]) else .fail) := h
    split at h
    · rename_i hz
      obtain ⟨S, ad, c, r⟩ := R1.args hl
      exact ⟨sz_of (by rw [hl]; exact hz), fun p hp => h _ _ (newCell c r hp)⟩
    · exact h.elim⟩
@[simp] def eIf (t : TF) (a b : EF) : EF := fun ρ μ => (t ρ μ).bind fun c μ1 => match c with
  | true => a ρ μ1
  | false => b ρ μ1
theorem simE_if {t : TT} {ta tb : TE} {ft : TF} {fa fb : EF} (ht : SimT K W t ft) (ha : SimE K W ta fa) (hb : SimE K W tb fb) : SimE K W (tIf t ta tb) (eIf ft fa fb) := ⟨fun {H0 S0 ad0 tmp ρ μ σ H Q} R h => by
  refine ht.run R ?_
  unfold eIf at h
  cases e1 : ft ρ μ with
  | fail => rw [e1] at h; exact h.elim
  | exc x μ1 => rw [e1] at h; exact h
  | val c μ1 =>
    rw [e1] at h
    intro H1 R1
    cases c with
    | true => exact iteT (ha.run R1 h)
    | false => exact iteF (hb.run R1 h)⟩
/-! ### tests -/
@[simp] def tfB (f : EF) : TF := fun ρ μ => (f ρ μ).bind fun d μ1 => match d with
  | .bl b => .val b μ1
  | _ => .fail
theorem simT_b {t : TE} {f : EF} (h : SimE K W t f) : SimT K W (tTest t) (tfB f) := ⟨fun {H0 S0 ad0 tmp ρ μ σ H Q} R g => by
  refine h.run R ?_
  unfold tfB at g
  cases e1 : f ρ μ with
  | fail => rw [e1] at g; exact g.elim
  | exc x μ1 => rw [e1] at g; exact g
  | val d μ1 =>
    rw [e1] at g
    intro v H1 R1
    cases d <;> first | exact g.elim | skip
    rename_i b
    obtain ⟨S, ad, c, r⟩ := R1.one
    cases r
    exact ⟨b, rfl, g H1 ⟨S, ad, c⟩⟩⟩
theorem simT_B {t : TE} {f : EF} (h : SimE K W t f) : SimT K W (tB t) (tfB f) := ⟨fun R g => (simT_b h).run R g⟩
@[simp] def tfAnd (a b : TF) : TF := fun ρ μ => (a ρ μ).bind fun c μ1 => match c with
  | true => b ρ μ1
  | false => .val false μ1
@[simp] def tfOr (a b : TF) : TF := fun ρ μ => (a ρ μ).bind fun c μ1 => match c with
  | true => .val true μ1
  | false => b ρ μ1
@[simp] def tfNot (a : TF) : TF := fun ρ μ => (a ρ μ).bind fun c μ1 => .val (!c) μ1
theorem simT_and {t u : TT} {f g : TF} (ht : SimT K W t f) (hu : SimT K W u g) : SimT K W (tAnd t u) (tfAnd f g) := ⟨fun {H0 S0 ad0 tmp ρ μ σ H Q} R h => by
  refine ht.run R ?_
  unfold tfAnd at h
  cases e1 : f ρ μ with
  | fail => rw [e1] at h; exact h.elim
  | exc x μ1 => rw [e1] at h; exact h
  | val c μ1 =>
    rw [e1] at h
    intro H1 R1
    cases c with
    | true => exact iteT (hu.run R1 h)
    | false => exact iteF (h H1 R1)⟩
theorem simT_or {t u : TT} {f g : TF} (ht : SimT K W t f) (hu : SimT K W u g) : SimT K W (tOr t u) (tfOr f g) := ⟨fun {H0 S0 ad0 tmp ρ μ σ H Q} R h => by
  refine ht.run R ?_
  unfold tfOr at h
  cases e1 : f ρ μ with
  | fail => rw [e1] at h; exact h.elim
  | exc x μ1 => rw [e1] at h; exact h
  | val c μ1 =>
    rw [e1] at h
    intro H1 R1
    cases c with
    | true => exact iteT (h H1 R1)
    | false => exact iteF (hu.run R1 h)⟩
theorem simT_not {t : TT} {f : TF} (ht : SimT K W t f) : SimT K W (tNot t) (tfNot f) := ⟨fun {H0 S0 ad0 tmp ρ μ σ H Q} R h => by
  refine ht.run R ?_
  unfold tfNot at h
  cases e1 : f ρ μ with
  | fail => rw [e1] at h; exact h.elim
  | exc x μ1 => rw [e1] at h; exact h
  | val c μ1 =>
    rw [e1] at h
    exact fun H1 R1 => h H1 R1⟩
/-- and, or, not as values of truths -/
@[simp] def eT (t : TF) : EF := fun ρ μ => (t ρ μ).bind fun b μ1 => .val (.bl b) μ1
theorem simE_andV {ta tb : TE} {fa fb : EF} (ha : SimE K W ta fa) (hb : SimE K W tb fb) : SimE K W (tAndV ta tb) (eT (tfAnd (tfB fa) (tfB fb))) := ⟨fun {H0 S0 ad0 tmp ρ μ σ H Q} R h => by
  refine ha.run R ?_
  unfold eT tfAnd tfB at h
  cases e1 : fa ρ μ with
  | fail => rw [e1] at h; exact h.elim
  | exc x μ1 => rw [e1] at h; exact h
  | val d μ1 =>
    rw [e1] at h
    intro v H1 R1
    cases d <;> first | exact h.elim | skip
    rename_i b
    obtain ⟨S, ad, c, r⟩ := R1.one
    cases r
    refine ⟨b, rfl, ?_⟩
    cases b with
    | false => exact iteF (h _ H1 R1)
    | true =>
      refine iteT (hb.run ⟨S, ad, c⟩ ?_)
      have h : PostE K W H0 S0 ad0 tmp ρ σ Q (((fb ρ μ1).bind fun d μ1 => match d with
        | .bl b => .val b μ1
        | _ => .fail).bind fun b μ1 => .val (.bl b) μ1) := h
      cases e2 : fb ρ μ1 with
      | fail => rw [e2] at h; exact h.elim
      | exc x μ1 => rw [e2] at h; exact h
      | val d μ2 =>
        rw [e2] at h
        cases d <;> first | exact h.elim | exact h⟩
theorem simE_orV {ta tb : TE} {fa fb : EF} (ha : SimE K W ta fa) (hb : SimE K W tb fb) : SimE K W (tOrV ta tb) (eT (tfOr (tfB fa) (tfB fb))) := ⟨fun {H0 S0 ad0 tmp ρ μ σ H Q} R h => by
  refine ha.run R ?_
  unfold eT tfOr tfB at h
  cases e1 : fa ρ μ with
  | fail => rw [e1] at h; exact h.elim
  | exc x μ1 => rw [e1] at h; exact h
  | val d μ1 =>
    rw [e1] at h
    intro v H1 R1
    cases d <;> first | exact h.elim | skip
    rename_i b
    obtain ⟨S, ad, c, r⟩ := R1.one
    cases r
    refine ⟨b, rfl, ?_⟩
    cases b with
    | true => exact iteT (h _ H1 R1)
    | false =>
      refine iteF (hb.run ⟨S, ad, c⟩ ?_)
      have h : PostE K W H0 S0 ad0 tmp ρ σ Q (((fb ρ μ1).bind fun d μ1 => match d with
        | .bl b => .val b μ1
        | _ => .fail).bind fun b μ1 => .val (.bl b) μ1) := h
      cases e2 : fb ρ μ1 with
      | fail => rw [e2] at h; exact h.elim
      | exc x μ1 => rw [e2] at h; exact h
      | val d μ2 =>
        rw [e2] at h
        cases d <;> first | exact h.elim | exact h⟩
theorem simE_notV {ta : TE} {fa : EF} (ha : SimE K W ta fa) : SimE K W (tNotV ta) (eT (tfNot (tfB fa))) := ⟨fun {H0 S0 ad0 tmp ρ μ σ H Q} R h => by
  refine ha.run R ?_
  unfold eT tfNot tfB at h
  cases e1 : fa ρ μ with
  | fail => rw [e1] at h; exact h.elim
  | exc x μ1 => rw [e1] at h; exact h
  | val d μ1 =>
    rw [e1] at h
    intro v H1 R1
    cases d <;> first | exact h.elim | skip
    rename_i b
    obtain ⟨S, ad, c, r⟩ := R1.one
    cases r
    exact ⟨b, rfl, h _ H1 (c.flat (flat_bl _))⟩⟩

/-! ### targets -/
abbrev GT := D → Ro → Mu → Option (Ro × Mu)
structure SimG (K : PySem.W.Frag) (t : TG) (g : GT) : Prop where
  run : ∀ {H0 S0 : Hp} {ad0 : Ad} {tmp : List (V × D)} {ρ : Ro} {μ : Mu} {σ : L2.St} {H : Hp} {Q : L2.St → Hp → Prop} {v : V} {d : D} {ρ' : Ro} {μ' : Mu}, Rel K H0 S0 ad0 ((v, d) :: tmp) ρ μ σ H → g d ρ μ = some (ρ', μ') →
    (∀ σ' H', Rel K H0 S0 ad0 tmp ρ' μ' σ' H' → Q σ' H') → t v σ H Q
@[simp] def gN (i : Nat) : GT := fun d ρ μ => some (ρ.set i (some d), μ)
theorem simG_n (i : Nat) : SimG K (gName i) (gN i) := ⟨fun {H0 S0 ad0 tmp ρ μ σ H Q v d ρ' μ'} R e h => by
  cases e
  obtain ⟨S, ad, c, r⟩ := R.one
  exact h _ _ ⟨S, ad, c.setv r i⟩⟩
/-- a tuple's parts -/
abbrev GTs := List D → Ro → Mu → Option (Ro × Mu)
structure SimGs (K : PySem.W.Frag) (t : TGs) (g : GTs) : Prop where
  run : ∀ {H0 S0 : Hp} {ad0 : Ad} {tmp : List (V × D)} {ρ : Ro} {μ : Mu} {σ : L2.St} {H : Hp} {Q : L2.St → Hp → Prop} {xs : List V} {ds : List D} {ρ' : Ro} {μ' : Mu}, xs.length = ds.length → Rel K H0 S0 ad0 (xs.zip ds ++ tmp) ρ μ σ H → g ds ρ μ = some (ρ', μ') →
    (∀ σ' H', Rel K H0 S0 ad0 tmp ρ' μ' σ' H' → Q σ' H') → t xs σ H Q
@[simp] def gN0 : GTs := fun ds ρ μ => match ds with
  | [] => some (ρ, μ)
  | _ => none
@[simp] def gC (g : GT) (h : GTs) : GTs := fun ds ρ μ => match ds with
  | d :: r => (g d ρ μ).bind fun p => h r p.1 p.2
  | [] => none
theorem simGs_nil : SimGs K gNil gN0 := ⟨fun {H0 S0 ad0 tmp ρ μ σ H Q xs ds ρ' μ'} hl R e h => by
  cases ds with
  | nil =>
    cases e
    cases xs with
    | nil => exact ⟨rfl, h _ _ R⟩
    | cons _ _ => simp at hl
  | cons _ _ => cases e⟩
theorem simGs_cons {t : TG} {u : TGs} {g : GT} {h : GTs} (ht : SimG K t g) (hu : SimGs K u h) : SimGs K (gCons t u) (gC g h) := ⟨fun {H0 S0 ad0 tmp ρ μ σ H Q xs ds ρ' μ'} hl R e k => by
  cases ds with
  | nil => cases e
  | cons d ds =>
    cases xs with
    | nil => simp at hl
    | cons x xs =>
      have e : ((g d ρ μ).bind fun p => h ds p.1 p.2) = some (ρ', μ') := e
      cases e1 : g d ρ μ with
      | none => rw [e1] at e; cases e
      | some p =>
        rw [e1] at e
        refine ⟨x, xs, rfl, ht.run (tmp := xs.zip ds ++ tmp) R (by rw [e1]) fun σ1 H1 R1 => ?_⟩
        exact hu.run (by simpa using hl) R1 e k⟩
@[simp] def gTp (n : Nat) (g : GTs) : GT := fun d ρ μ => match d with
  | .tup ds => if ds.length = n then g ds ρ μ else none
  | _ => none
theorem simG_tup {u : TGs} {g : GTs} {n : Nat} (hu : SimGs K u g) : SimG K (gTup K n u) (gTp n g) := ⟨fun {H0 S0 ad0 tmp ρ μ σ H Q v d ρ' μ'} R e h => by
  obtain ⟨S, ad, c, r⟩ := R.one
  cases d <;> first | cases e | skip
  rename_i ds
  have e : (if ds.length = n then g ds ρ μ else none) = some (ρ', μ') := e
  split at e
  · rename_i hn
    cases r with
    | tup hs r =>
      refine ⟨_, _, rfl, .inl (.inl (c.sh _ _ hs)), by rw [r.length]; exact hn, hu.run r.length ⟨S, ad, c.tmps fun p m => ?_⟩ e h⟩
      rcases List.mem_append.mp m with m | m
      · exact zip_rpL r p m
      · exact c.tm p m
  · cases e⟩

/-! ### statements -/
@[simp] def sNext : SF := fun ρ μ => .nx ρ μ
@[simp] def sSeq (a b : SF) : SF := fun ρ μ => match a ρ μ with
  | .nx ρ1 μ1 => b ρ1 μ1
  | .ret d μ1 => .ret d μ1
  | .bk ρ1 μ1 => .bk ρ1 μ1
  | .ct ρ1 μ1 => .ct ρ1 μ1
  | .exc x ρ1 μ1 => .exc x ρ1 μ1
  | .fail => .fail
theorem simS_next : SimS K W tNext sNext := ⟨fun r h => h _ _ r⟩
theorem simS_seq {t u : TS} {a b : SF} (ht : SimS K W t a) (hu : SimS K W u b) : SimS K W (tSeq t u) (sSeq a b) := ⟨fun {H0 S0 ad0 tmp ρ μ σ H E} R h => by
  refine ht.run (E := { E with nx := u E }) R ?_
  unfold sSeq at h
  cases e1 : a ρ μ with
  | nx ρ1 μ1 => rw [e1] at h; exact fun σ1 H1 R1 => hu.run R1 h
  | ret d μ1 => rw [e1] at h; exact h
  | bk ρ1 μ1 => rw [e1] at h; exact h
  | ct ρ1 μ1 => rw [e1] at h; exact h
  | exc x ρ1 μ1 => rw [e1] at h; exact h
  | fail => rw [e1] at h; exact h⟩
@[simp] def sBreak : SF := fun ρ μ => .bk ρ μ
@[simp] def sCont : SF := fun ρ μ => .ct ρ μ
theorem simS_break : SimS K W tBreak sBreak := ⟨fun r h => h _ _ r⟩
theorem simS_cont : SimS K W tCont sCont := ⟨fun r h => h _ _ r⟩
@[simp] def sDrop (f : EF) : SF := fun ρ μ => match f ρ μ with
  | .val _ μ1 => .nx ρ μ1
  | .exc x μ1 => .exc x ρ μ1
  | .fail => .fail
theorem simS_drop {t : TE} {f : EF} (h : SimE K W t f) : SimS K W (tDrop t) (sDrop f) := ⟨fun {H0 S0 ad0 tmp ρ μ σ H E} R g => by
  refine h.run R ?_
  unfold sDrop at g
  cases e1 : f ρ μ with
  | fail => rw [e1] at g; exact g.elim
  | exc x μ1 => rw [e1] at g; exact fun cls dd H r => g cls dd σ H r
  | val d μ1 => rw [e1] at g; exact fun v H1 R1 => g _ _ R1.pop⟩
@[simp] def sRet (f : EF) : SF := fun ρ μ => match f ρ μ with
  | .val d μ1 => .ret d μ1
  | .exc x μ1 => .exc x ρ μ1
  | .fail => .fail
theorem simS_ret {t : TE} {f : EF} (h : SimE K W t f) : SimS K W (tRet t) (sRet f) := ⟨fun {H0 S0 ad0 tmp ρ μ σ H E} R g => by
  refine h.run R ?_
  unfold sRet at g
  cases e1 : f ρ μ with
  | fail => rw [e1] at g; exact g.elim
  | exc x μ1 => rw [e1] at g; exact fun cls dd H r => g cls dd σ H r
  | val d μ1 => rw [e1] at g; exact fun v H1 R1 => g _ _ _ _ R1⟩
@[simp] def sRetN : SF := fun _ μ => .ret .non μ
theorem simS_retN : SimS K W tRetN sRetN := ⟨fun r h => h _ _ _ _ (r.flat flat_non)⟩
@[simp] def sAsgG (f : EF) (g : GT) : SF := fun ρ μ => match f ρ μ with
  | .val d μ1 => (match g d ρ μ1 with
    | some p => .nx p.1 p.2
    | none => .fail)
  | .exc x μ1 => .exc x ρ μ1
  | .fail => .fail
abbrev sAsg (i : Nat) (f : EF) : SF := sAsgG f (gN i)
theorem simS_asg {t : TE} {u : TG} {f : EF} {g : GT} (h : SimE K W t f) (hu : SimG K u g) : SimS K W (tAsg t u) (sAsgG f g) := ⟨fun {H0 S0 ad0 tmp ρ μ σ H E} R k => by
  refine h.run R ?_
  unfold sAsgG at k
  cases e1 : f ρ μ with
  | fail => rw [e1] at k; exact k.elim
  | exc x μ1 => rw [e1] at k; exact fun cls dd H r => k cls dd σ H r
  | val d μ1 =>
    rw [e1] at k
    intro v H1 R1
    have k : PostS K W H0 S0 ad0 tmp E (match g d ρ μ1 with
      | some p => .nx p.1 p.2
      | none => .fail) := k
    cases e2 : g d ρ μ1 with
    | none => rw [e2] at k; exact k.elim
    | some p => rw [e2] at k; exact hu.run R1 e2 fun σ' H' R' => k _ _ R'⟩
@[simp] def sAug (i : Nat) (f : EF) (g : GF) : SF := fun ρ μ => match ρ[i]? with
  | some (some x) => (match f ρ μ with
    | .val y μ1 => (match g x y μ1 with
      | .val z μ2 => .nx (ρ.set i (some z)) μ2
      | .exc x μ2 => .exc x ρ μ2
      | .fail => .fail)
    | .exc x μ1 => .exc x ρ μ1
    | .fail => .fail)
  | _ => .fail
theorem simS_aug {i : Nat} {t : TE} {ti : TIp} {f : EF} {g : GF} (h : SimE K W t f) (hg : SimO K W ti g) : SimS K W (tAug i t ti) (sAug i f g) := ⟨fun {H0 S0 ad0 tmp ρ μ σ H E} R k => by
  obtain ⟨S, ad, c⟩ := R
  unfold sAug at k
  split at k
  · rename_i x hx
    obtain ⟨v, h1, h2⟩ := c.sl i x hx
    refine ⟨v, h1, h.run ⟨S, ad, c.push h2⟩ ?_⟩
    cases e1 : f ρ μ with
    | fail => rw [e1] at k; exact k.elim
    | exc x μ1 => rw [e1] at k; exact fun cls dd H r => k cls dd σ H r.pop
    | val y μ1 =>
      rw [e1] at k
      intro v2 H2 R2
      refine hg.run R2 ?_
      have k : PostS K W H0 S0 ad0 tmp E (match g x y μ1 with
        | .val z μ2 => .nx (ρ.set i (some z)) μ2
        | .exc x μ2 => .exc x ρ μ2
        | .fail => .fail) := k
      cases e2 : g x y μ1 with
      | fail => rw [e2] at k; exact k.elim
      | exc x μ1 => rw [e2] at k; exact fun cls dd H r => k cls dd σ H r
      | val z μ2 =>
        rw [e2] at k
        intro v3 H3 R3
        obtain ⟨S3, ad3, c3, r3⟩ := R3.one
        exact k _ _ ⟨S3, ad3, c3.setv r3 i⟩
  · exact k.elim⟩
@[simp] def sIf (t : TF) (a b : SF) : SF := fun ρ μ => match t ρ μ with
  | .val true μ1 => a ρ μ1
  | .val false μ1 => b ρ μ1
  | .exc x μ1 => .exc x ρ μ1
  | .fail => .fail
theorem simS_if {t : TT} {u v : TS} {f : TF} {a b : SF} (ht : SimT K W t f) (hu : SimS K W u a) (hv : SimS K W v b) : SimS K W (tIfS t u v) (sIf f a b) := ⟨fun {H0 S0 ad0 tmp ρ μ σ H E} R k => by
  refine ht.run R ?_
  unfold sIf at k
  cases e1 : f ρ μ with
  | fail => rw [e1] at k; exact k.elim
  | exc x μ1 => rw [e1] at k; exact fun cls dd H r => k cls dd σ H r
  | val c μ1 =>
    rw [e1] at k
    intro H1 R1
    cases c with
    | true => exact iteT (hu.run R1 k)
    | false => exact iteF (hv.run R1 k)⟩
/-! ### loops -/
def whileN (c : TF) (b : SF) : Nat → Ro → Mu → Out
  | 0, _, _ => .fail
  | n + 1, ρ, μ => match c ρ μ with
    | .val true μ1 => (match b ρ μ1 with
      | .nx ρ2 μ2 => whileN c b n ρ2 μ2
      | .ct ρ2 μ2 => whileN c b n ρ2 μ2
      | .bk ρ2 μ2 => .nx ρ2 μ2
      | .ret d μ2 => .ret d μ2
      | .exc x ρ2 μ2 => .exc x ρ2 μ2
      | .fail => .fail)
    | .val false μ1 => .nx ρ μ1
    | .exc x μ1 => .exc x ρ μ1
    | .fail => .fail
@[simp] def sWhile (N : Nat) (c : TF) (b : SF) : SF := whileN c b N
theorem simS_while {t : TT} {u : TS} {c : TF} {b : SF} (N : Nat) (ht : SimT K W t c) (hu : SimS K W u b) : SimS K W (tWhile t u) (sWhile N c b) := ⟨fun {H0 S0 ad0 tmp ρ μ σ H E} R k => by
  refine ⟨fun m σ H => ∃ ρ μ, Rel K H0 S0 ad0 tmp ρ μ σ H ∧ PostS K W H0 S0 ad0 tmp E (whileN c b m ρ μ), ⟨N, ρ, μ, R, k⟩, ?_⟩
  rintro m σ H ⟨ρ, μ, R, k⟩
  cases m with
  | zero => exact k.elim
  | succ m =>
    refine ht.run R ?_
    unfold whileN at k
    cases e1 : c ρ μ with
    | fail => rw [e1] at k; exact k.elim
    | exc x μ1 => rw [e1] at k; exact fun cls dd H r => k cls dd σ H r
    | val t μ1 =>
      rw [e1] at k
      intro H1 R1
      cases t with
      | false => exact iteF (k _ _ R1)
      | true =>
        refine iteT ⟨fun σ' H' => ∃ ρ μ, Rel K H0 S0 ad0 tmp ρ μ σ' H' ∧ PostS K W H0 S0 ad0 tmp E (whileN c b m ρ μ), fun σ' H' h => ⟨m, Nat.lt_succ_self m, h⟩, ?_⟩
        refine hu.run R1 ?_
        have k : PostS K W H0 S0 ad0 tmp E (match b ρ μ1 with
          | .nx ρ2 μ2 => whileN c b m ρ2 μ2
          | .ct ρ2 μ2 => whileN c b m ρ2 μ2
          | .bk ρ2 μ2 => .nx ρ2 μ2
          | .ret d μ2 => .ret d μ2
          | .exc x ρ2 μ2 => .exc x ρ2 μ2
          | .fail => .fail) := k
        cases e2 : b ρ μ1 with
        | nx ρ2 μ2 => rw [e2] at k; exact fun σ' H' R' => ⟨ρ2, μ2, R', k⟩
        | ct ρ2 μ2 => rw [e2] at k; exact fun σ' H' R' => ⟨ρ2, μ2, R', k⟩
        | bk ρ2 μ2 => rw [e2] at k; exact k
        | ret d μ2 => rw [e2] at k; exact k
        | exc x ρ2 μ2 => rw [e2] at k; exact k
        | fail => rw [e2] at k; exact k⟩
/-- what is walked -/
def JW (K : PySem.W.Frag) (J : It) (ds : List D) (tl : List (V × D)) : Prop :=
  ∀ {H0 S0 : Hp} {ad0 : Ad} {tmp : List (V × D)} {ρ : Ro} {μ : Mu} {σ : L2.St} {H : Hp}, Rel K H0 S0 ad0 (tl ++ tmp) ρ μ σ H → ∀ i : Nat,
    (∀ d, ds[i]? = some d → J.go i H ∧ ∀ x H', J.yld i H x H' → Rel K H0 S0 ad0 ((x, d) :: (tl ++ tmp)) ρ μ σ H') ∧ (ds.length ≤ i → J.stop i H)
def PostI (K : PySem.W.Frag) (W : WX) (H0 S0 : Hp) (ad0 : Ad) (tmp : List (V × D)) (ρ : Ro) (σ : L2.St) (R : It → Hp → Prop) : Res (List D) → Prop
  | .val ds μ => ∀ J tl H, Rel K H0 S0 ad0 (tl ++ tmp) ρ μ σ H → JW K J ds tl → R J H
  | .exc x μ => ∀ cls dd H, RelX K H0 S0 ad0 tmp ρ μ σ H x cls dd → W cls dd σ H
  | .fail => False
structure SimI (K : PySem.W.Frag) (W : WX) (wi : TI) (f : AF) : Prop where
  run : ∀ {H0 S0 : Hp} {ad0 : Ad} {tmp : List (V × D)} {ρ : Ro} {μ : Mu} {σ : L2.St} {H : Hp} {R : It → Hp → Prop}, Rel K H0 S0 ad0 tmp ρ μ σ H → PostI K W H0 S0 ad0 tmp ρ σ R (f ρ μ) → wi σ H R
def forL (g : GT) (b : SF) : List D → Ro → Mu → Out
  | [], ρ, μ => .nx ρ μ
  | d :: ds, ρ, μ => match g d ρ μ with
    | none => .fail
    | some p => match b p.1 p.2 with
      | .nx ρ2 μ2 => forL g b ds ρ2 μ2
      | .ct ρ2 μ2 => forL g b ds ρ2 μ2
      | .bk ρ2 μ2 => .nx ρ2 μ2
      | .ret d μ2 => .ret d μ2
      | .exc x ρ2 μ2 => .exc x ρ2 μ2
      | .fail => .fail
@[simp] def sFor (f : AF) (g : GT) (b : SF) : SF := fun ρ μ => match f ρ μ with
  | .val ds μ1 => forL g b ds ρ μ1
  | .exc x μ1 => .exc x ρ μ1
  | .fail => .fail
theorem PostS.tl {tl tmp : List (V × D)} {E : Ends} {o : Out} (h : PostS K W H0 S0 ad0 tmp E o) : PostS K W H0 S0 ad0 (tl ++ tmp) E o := by
  have hs : ∀ p ∈ tmp, p ∈ tl ++ tmp := fun p m => List.mem_append_right _ m
  cases o with
  | nx ρ μ => exact fun σ H R => h σ H (R.sub hs)
  | bk ρ μ => exact fun σ H R => h σ H (R.sub hs)
  | ct ρ μ => exact fun σ H R => h σ H (R.sub hs)
  | ret d μ => exact fun v ρ σ H R => h v ρ σ H (R.sub fun p m => by
      rcases List.mem_cons.mp m with m | m
      · rw [m]; exact List.mem_cons_self
      · exact List.mem_cons_of_mem _ (hs p m))
  | exc x ρ μ => exact fun cls dd σ H R => h cls dd σ H (R.sub hs)
  | fail => exact h
theorem simS_for {wi : TI} {t : TG} {u : TS} {f : AF} {g : GT} {b : SF} (hi : SimI K W wi f) (hg : SimG K t g) (hb : SimS K W u b) : SimS K W (tFor wi t u) (sFor f g b) := ⟨fun {H0 S0 ad0 tmp ρ μ σ H E} R k => by
  refine hi.run R ?_
  unfold sFor at k
  cases e1 : f ρ μ with
  | fail => rw [e1] at k; exact k.elim
  | exc x μ1 => rw [e1] at k; exact fun cls dd H r => k cls dd σ H r
  | val ds μ1 =>
    rw [e1] at k
    intro J tl H1 R1 jw
    have k : PostS K W H0 S0 ad0 tmp E (forL g b ds ρ μ1) := k
    refine ⟨fun i m σ H => m = ds.length - i ∧ i ≤ ds.length ∧ ∃ ρ μ, Rel K H0 S0 ad0 (tl ++ tmp) ρ μ σ H ∧ PostS K W H0 S0 ad0 tmp E (forL g b (ds.drop i) ρ μ), ⟨ds.length, by simp, Nat.zero_le _, ρ, μ1, R1, k⟩, ?_⟩
    rintro i m σ H ⟨rfl, hi, ρ, μ, R, k⟩
    obtain ⟨j1, j2⟩ := jw R i
    by_cases hlt : i < ds.length
    · obtain ⟨go, yl⟩ := j1 ds[i] (List.getElem?_eq_getElem hlt)
      refine .inr ⟨go, fun σ' H' => ∃ ρ μ, Rel K H0 S0 ad0 (tl ++ tmp) ρ μ σ' H' ∧ PostS K W H0 S0 ad0 tmp E (forL g b (ds.drop (i + 1)) ρ μ), fun σ' H' ⟨ρ', μ', R', k'⟩ => ⟨ds.length - (i + 1), by omega, rfl, hlt, ρ', μ', R', k'⟩, fun x H' y => ?_⟩
      have R2 := yl x H' y
      rw [List.drop_eq_getElem_cons hlt] at k
      unfold forL at k
      cases e2 : g ds[i] ρ μ with
      | none => rw [e2] at k; exact k.elim
      | some p =>
        rw [e2] at k
        refine hg.run R2 e2 fun σ2 H2 R2 => hb.run (E := { E with nx := fun σ' H' => ∃ ρ μ, Rel K H0 S0 ad0 (tl ++ tmp) ρ μ σ' H' ∧ PostS K W H0 S0 ad0 tmp E (forL g b (ds.drop (i + 1)) ρ μ), ct := fun σ' H' => ∃ ρ μ, Rel K H0 S0 ad0 (tl ++ tmp) ρ μ σ' H' ∧ PostS K W H0 S0 ad0 tmp E (forL g b (ds.drop (i + 1)) ρ μ), bk := E.nx }) R2 ?_
        have k : PostS K W H0 S0 ad0 tmp E (match b p.1 p.2 with
          | .nx ρ2 μ2 => forL g b (ds.drop (i + 1)) ρ2 μ2
          | .ct ρ2 μ2 => forL g b (ds.drop (i + 1)) ρ2 μ2
          | .bk ρ2 μ2 => .nx ρ2 μ2
          | .ret d μ2 => .ret d μ2
          | .exc x ρ2 μ2 => .exc x ρ2 μ2
          | .fail => .fail) := k
        cases e3 : b p.1 p.2 with
        | nx ρ2 μ2 => rw [e3] at k; exact fun σ' H' R' => ⟨ρ2, μ2, R', k⟩
        | ct ρ2 μ2 => rw [e3] at k; exact fun σ' H' R' => ⟨ρ2, μ2, R', k⟩
        | bk ρ2 μ2 => rw [e3] at k; exact PostS.tl (E := E) (o := .nx ρ2 μ2) k
        | ret d μ2 => rw [e3] at k; exact PostS.tl (E := E) (o := .ret d μ2) k
        | exc x ρ2 μ2 => rw [e3] at k; exact PostS.tl (E := E) (o := .exc x ρ2 μ2) k
        | fail => rw [e3] at k; exact k
    · have e : i = ds.length := by omega
      subst e
      rw [List.drop_length] at k
      exact .inl ⟨j2 (Nat.le_refl _), k σ H (R.sub fun p m => List.mem_append_right _ m)⟩⟩
end
end Dn

/-! Dn3: the rules, construct by construct; operations; calls of defs. -/
namespace Dn
open PySem PySem.Spec PyProof.Rows L2

section
variable {X : Cx} {W : WX} {a b c e o : Expr} {es rest : List Expr} {fa fb fc fe fo : EF} {ta tb tc : TF} {pos p apos : Pos} {x : Str}
theorem de_var (i : Nat) {x : Str} {pos : Pos} (hN : X.N[i]? = some x := by rfl) (hv : Vis X.env.scope x := by first | exact Or.inl rfl | exact Or.inr (Or.inl rfl) | exact Or.inr (Or.inr rfl)) (hd : (x == ("__debug__" : Str)) = false := by decide)
    (hcd : (x == ("__classdict__" : Str)) = false := by decide) : DE X W (.Name x pos) (eVar i) := ⟨_, pe_var hN hv hd hcd, simE_var i⟩
theorem de_int {i j} : DE X W (.Constant (.int i) j pos) (eC (.int i)) := ⟨_, pe_int, simE_c (flat_int i)⟩
theorem de_bl {i j} : DE X W (.Constant (.bool i) j pos) (eC (.bl i)) := ⟨_, pe_bl, simE_c (flat_bl i)⟩
theorem de_non {j} : DE X W (.Constant .none j pos) (eC .non) := ⟨_, pe_non, simE_c flat_non⟩
theorem de_str {s j} : DE X W (.Constant (.str s) j pos) (eC (.str s)) := ⟨_, pe_str, simE_c (flat_str s)⟩
theorem flat_raw (v : V) : Flat v (.raw v) := fun _ _ _ => .raw v
/-- a class, a function of the module as a value -/
theorem de_glob {u : Value} {v : V} (hg : Gl X x) (hm : X.mg x = some u) (r : RelV v u) (hd : (x == ("__debug__" : Str)) = false := by decide) : DE X W (.Name x pos) (eC (.raw v)) := ⟨_, pe_glob hg hm r hd, simE_c (flat_raw v)⟩
theorem de_globI {i : Int} {t : Tok} (hg : Gl X x) (hm : X.mg x = some (.int i t)) (hd : (x == ("__debug__" : Str)) = false := by decide) : DE X W (.Name x pos) (eC (.int i)) := ⟨_, pe_glob (v := .int i) hg hm ⟨t, rfl⟩ hd, simE_c (flat_int i)⟩
theorem de_globS {i : Str} {t : Tok} (hg : Gl X x) (hm : X.mg x = some (.str i t)) (hd : (x == ("__debug__" : Str)) = false := by decide) : DE X W (.Name x pos) (eC (.str i)) := ⟨_, pe_glob (v := .str i) hg hm ⟨t, rfl⟩ hd, simE_c (flat_str i)⟩
/-- a built-in class as a value -/
theorem de_ty {T : String} (hg : Gl X x) (hm : X.mg x = none) (hv : bootBuiltins x = some (.type T)) (hn : x ≠ "__name__" := by decide) (hd : (x == ("__debug__" : Str)) = false := by decide) : DE X W (.Name x pos) (eC (.raw (.ty T))) :=
  ⟨_, pe_bltn (v := .ty T) hg hm hv rfl hn hd, simE_c (flat_raw _)⟩

/-- an operator by its rule -/
def OpO (X : Cx) (W : WX) (op : Operator) (g : GF) : Prop := ∃ r, OpR X (binaryOp op) r ∧ SimO X.K W r g
def CmO (X : Cx) (W : WX) (op : CmpOp) (g : GF) : Prop := ∃ r, OpR X (compareOp op) r ∧ SimO X.K W r g
def UnO (X : Cx) (W : WX) (op : UnaryOp) (g : D → Mu → Res D) : Prop := ∃ r, UnR X (unaryOp op) r ∧ SimU X.K W r g
def CbO (X : Cx) (W : WX) (f : Value) (g : List D → Mu → Res D) : Prop := ∃ r, CallR X f r ∧ SimC X.K W r g
theorem de_op {op : Operator} {g : GF} (ho : OpO X W op g) (ha : DE X W a fa) (hb : DE X W b fb) : DE X W (.BinOp a op b pos) (eOp g fa fb) :=
  let ⟨_, h1, h2⟩ := ho; let ⟨_, p1, q1⟩ := ha; let ⟨_, p2, q2⟩ := hb; ⟨_, pe_op h1 p1 p2, simE_op q1 q2 h2⟩
theorem de_un {op : UnaryOp} {g : D → Mu → Res D} (ho : UnO X W op g) (ha : DE X W a fa) : DE X W (.UnaryOp op a pos) (eUn g fa) :=
  let ⟨_, h1, h2⟩ := ho; let ⟨_, p1, q1⟩ := ha; ⟨_, pe_un h1 p1, simE_un q1 h2⟩
theorem de_cmp {op : CmpOp} {g : GF} (ho : CmO X W op g) (ha : DE X W a fa) (hb : DE X W b fb) (hm : behindInMarks op b = false := by first | exact nomark _ | rfl) : DE X W (.Compare a [op] [b] pos) (eOp g fa fb) :=
  let ⟨_, h1, h2⟩ := ho; let ⟨_, p1, q1⟩ := ha; let ⟨_, p2, q2⟩ := hb; ⟨_, pe_cmpR h1 p1 p2 hm, simE_op q1 q2 h2⟩
theorem dt_cmp {op : CmpOp} {g : GF} (ho : CmO X W op g) (ha : DE X W a fa) (hb : DE X W b fb) (hm : behindInMarks op b = false := by first | exact nomark _ | rfl) : DT X W (.Compare a [op] [b] pos) (tfB (eOp g fa fb)) :=
  let ⟨_, h1, h2⟩ := ho; let ⟨_, p1, q1⟩ := ha; let ⟨_, p2, q2⟩ := hb; ⟨_, pt_cmpR h1 p1 p2 hm, simT_b (simE_op q1 q2 h2)⟩
/-- a op b op' c -/
@[simp] def eChain (g g' : GF) (a b c : EF) : EF := fun ρ μ => (a ρ μ).bind fun x μ1 => (b ρ μ1).bind fun y μ2 => (g x y μ2).bind fun z μ3 => match z with
  | .bl true => (c ρ μ3).bind fun w μ4 => g' y w μ4
  | .bl false => .val (.bl false) μ3
  | _ => .fail
theorem simE_chain {K : PySem.W.Frag} {r r' : R2} {g g' : GF} {t1 t2 t3 : TE} (h1 : SimO K W r g) (h2 : SimO K W r' g') (ha : SimE K W t1 fa) (hb : SimE K W t2 fb) (hc : SimE K W t3 fc) : SimE K W (tChain r r' t1 t2 t3) (eChain g g' fa fb fc) := ⟨fun {H0 S0 ad0 tmp ρ μ σ H Q} R h => by
  refine ha.run R ?_
  unfold eChain at h
  cases e1 : fa ρ μ with
  | fail => rw [e1] at h; exact h.elim
  | exc x μ1 => rw [e1] at h; exact h
  | val x μ1 =>
    rw [e1] at h
    intro v1 H1 R1
    refine hb.run R1 ?_
    simp only [bind_val] at h
    cases e2 : fb ρ μ1 with
    | fail => rw [e2] at h; exact h.elim
    | exc x μ1 => rw [e2] at h; exact fun cls dd H r => h cls dd H r.pop
    | val y μ2 =>
      rw [e2] at h
      intro v2 H2 R2
      simp only [bind_val] at h
      -- keep y for the second comparison
      have R2' : Rel K H0 S0 ad0 ((v2, y) :: (v1, x) :: (v2, y) :: tmp) ρ μ2 σ H2 := R2.sub fun q m => by
        rcases List.mem_cons.mp m with m | m
        · rw [m]; exact List.mem_cons_self
        · rcases List.mem_cons.mp m with m | m
          · rw [m]; exact List.mem_cons_of_mem _ List.mem_cons_self
          · rcases List.mem_cons.mp m with m | m
            · rw [m]; exact List.mem_cons_self
            · exact List.mem_cons_of_mem _ (List.mem_cons_of_mem _ m)
      refine h1.run R2' ?_
      cases e3 : g x y μ2 with
      | fail => rw [e3] at h; exact h.elim
      | exc x μ1 => rw [e3] at h; exact fun cls dd H r => h cls dd H r.pop
      | val z μ3 =>
        rw [e3] at h
        intro v3 H3 R3
        simp only [bind_val] at h
        obtain ⟨S, ad, c, rp⟩ := R3.one
        cases z <;> first | exact h.elim | skip
        rename_i k
        cases rp
        refine ⟨k, rfl, ?_⟩
        cases k with
        | false => exact iteF (h _ _ ⟨S, ad, c.pop.push (.bl false)⟩)
        | true =>
          refine iteT (hc.run ⟨S, ad, c⟩ ?_)
          have h : PostE K W H0 S0 ad0 tmp ρ σ Q ((fc ρ μ3).bind fun w μ4 => g' y w μ4) := h
          cases e4 : fc ρ μ3 with
          | fail => rw [e4] at h; exact h.elim
          | exc x μ1 => rw [e4] at h; exact fun cls dd H r => h cls dd H r.pop
          | val w μ4 =>
            rw [e4] at h
            exact fun v4 H4 R4 => h2.run R4 h⟩
theorem de_chain {op op' : CmpOp} {g g' : GF} (ho : CmO X W op g) (ho' : CmO X W op' g') (ha : DE X W a fa) (hb : DE X W b fb) (hc : DE X W c fc) (hm : lastMarks [op, op'] [b, c] = false := by with_unfolding_all rfl) :
    DE X W (.Compare a [op, op'] [b, c] pos) (eChain g g' fa fb fc) :=
  let ⟨_, h1, h2⟩ := ho; let ⟨_, k1, k2⟩ := ho'; let ⟨_, p1, q1⟩ := ha; let ⟨_, p2, q2⟩ := hb; let ⟨_, p3, q3⟩ := hc; ⟨_, pe_chain h1 k1 p1 p2 p3 hm, simE_chain h2 k2 q1 q2 q3⟩
theorem dt_chain {op op' : CmpOp} {g g' : GF} (ho : CmO X W op g) (ho' : CmO X W op' g') (ha : DE X W a fa) (hb : DE X W b fb) (hc : DE X W c fc) (hm : lastMarks [op, op'] [b, c] = false := by with_unfolding_all rfl) :
    DT X W (.Compare a [op, op'] [b, c] pos) (tfB (eChain g g' fa fb fc)) :=
  let ⟨_, h1, h2⟩ := ho; let ⟨_, k1, k2⟩ := ho'; let ⟨_, p1, q1⟩ := ha; let ⟨_, p2, q2⟩ := hb; let ⟨_, p3, q3⟩ := hc; ⟨_, pt_chain h1 k1 p1 p2 p3 hm, simT_b (simE_chain h2 k2 q1 q2 q3)⟩
/-- an expression whose value is a truth, as a test -/
theorem dt_val (h : DE X W e fe) (he : ∀ whole, isTrue e X.env whole = (do let v ← whole; standAt e.pos; holding [v] (truthy v)) := by intro _; rfl) : DT X W e (tfB fe) := let ⟨_, p1, q1⟩ := h; ⟨_, pt_val p1 he, simT_B q1⟩
theorem dw_and1 (h : DT X W a ta) : DW X W (.BoolOp .And [a] pos) ta := let ⟨_, p1, q1⟩ := h; ⟨_, pw_and1 p1, q1⟩
theorem dw_or1 (h : DT X W a ta) : DW X W (.BoolOp .Or [a] pos) ta := let ⟨_, p1, q1⟩ := h; ⟨_, pw_or1 p1, q1⟩
theorem dw_and (h : DT X W a ta) (h2 : DW X W (.BoolOp .And (b :: rest) pos) tb) : DW X W (.BoolOp .And (a :: b :: rest) pos) (tfAnd ta tb) := let ⟨_, p1, q1⟩ := h; let ⟨_, p2, q2⟩ := h2; ⟨_, pw_and p1 p2, simT_and q1 q2⟩
theorem dw_or (h : DT X W a ta) (h2 : DW X W (.BoolOp .Or (b :: rest) pos) tb) : DW X W (.BoolOp .Or (a :: b :: rest) pos) (tfOr ta tb) := let ⟨_, p1, q1⟩ := h; let ⟨_, p2, q2⟩ := h2; ⟨_, pw_or p1 p2, simT_or q1 q2⟩
theorem dt_w (h : DW X W e ta) : DT X W e ta := let ⟨_, p1, q1⟩ := h; ⟨_, p1.pt, q1⟩
theorem dt_not (h : DT X W a ta) : DT X W (.UnaryOp .Not a pos) (tfNot ta) := let ⟨_, p1, q1⟩ := h; ⟨_, pt_not p1, simT_not q1⟩
theorem de_one {op} (h : DE X W a fa) : DE X W (.BoolOp op [a] pos) fa := let ⟨_, p1, q1⟩ := h; ⟨_, pe_one p1, q1⟩
theorem de_and (h : DE X W a fa) (h2 : DE X W (.BoolOp .And (b :: rest) pos) fb) : DE X W (.BoolOp .And (a :: b :: rest) pos) (eT (tfAnd (tfB fa) (tfB fb))) := let ⟨_, p1, q1⟩ := h; let ⟨_, p2, q2⟩ := h2; ⟨_, pe_and p1 p2, simE_andV q1 q2⟩
theorem de_or (h : DE X W a fa) (h2 : DE X W (.BoolOp .Or (b :: rest) pos) fb) : DE X W (.BoolOp .Or (a :: b :: rest) pos) (eT (tfOr (tfB fa) (tfB fb))) := let ⟨_, p1, q1⟩ := h; let ⟨_, p2, q2⟩ := h2; ⟨_, pe_or p1 p2, simE_orV q1 q2⟩
theorem de_not (h : DE X W a fa) : DE X W (.UnaryOp .Not a pos) (eT (tfNot (tfB fa))) := let ⟨_, p1, q1⟩ := h; ⟨_, pe_not p1, simE_notV q1⟩
theorem de_if (ht : DT X W c tc) (ha : DE X W a fa) (hb : DE X W b fb) : DE X W (.IfExp c a b pos) (eIf tc fa fb) := let ⟨_, p0, q0⟩ := ht; let ⟨_, p1, q1⟩ := ha; let ⟨_, p2, q2⟩ := hb; ⟨_, pe_ifExp p0 p1 p2, simE_if q0 q1 q2⟩
theorem da_nil : DA X W [] aNil := ⟨_, pa_nil, simA_nil⟩
theorem da_cons {f : AF} (he : DE X W e fe) (hr : DA X W es f) (hs : starEach (e :: es) X.env = (false, eval e X.env) :: starEach es X.env := by rfl) : DA X W (e :: es) (aCons fe f) := let ⟨_, p1, q1⟩ := he; let ⟨_, p2, q2⟩ := hr; ⟨_, pa_cons p1 p2 hs, simA_cons q1 q2⟩
theorem de_tup {x1} {f : AF} (h : DA X W es f) : DE X W (.Tuple es x1 pos) (eTup f) := let ⟨_, p1, q1⟩ := h; ⟨_, pe_tup p1, simE_tup q1⟩
theorem de_lst {f : AF} (h : DA X W es f) : DE X W (.List es pos) (eLst f) := let ⟨_, p1, q1⟩ := h; ⟨_, pe_lst p1, simE_lst q1⟩
theorem de_new {f : AF} (h : DA X W es f) : DE X W (.List es pos) (eNew f) := let ⟨_, p1, q1⟩ := h; ⟨_, pe_lst p1, simE_new q1⟩
theorem de_cb {id : String} {g : List D → Mu → Res D} {f : AF} (hc : CbO X W (.builtin id) g) (hg : Gl X x) (hm : X.mg x = none) (hv : bootBuiltins x = some (.builtin id)) (ha : DA X W (e :: es) f) (hn : x ≠ "__name__" := by decide) (hdb : (x == ("__debug__" : Str)) = false := by decide)
    (he : starEach (e :: es) X.env = (false, eval e X.env) :: starEach es X.env := by rfl) (hpl : (backTo pos (starEach es X.env)).any (·.1) = false := by rfl) : DE X W (.Call (.Name x p) (e :: es) [] pos) (eCB g f) :=
  let ⟨_, h1, h2⟩ := hc; let ⟨_, p1, q1⟩ := ha; ⟨_, pe_callB h1 hg hm hv p1 hn hdb he hpl, simE_cb q1 h2⟩
theorem de_ct {T : String} {g : List D → Mu → Res D} {f : AF} (hc : CbO X W (.type T) g) (hg : Gl X x) (hm : X.mg x = none) (hv : bootBuiltins x = some (.type T)) (ha : DA X W (e :: es) f) (hn : x ≠ "__name__" := by decide) (hdb : (x == ("__debug__" : Str)) = false := by decide)
    (he : starEach (e :: es) X.env = (false, eval e X.env) :: starEach es X.env := by rfl) (hpl : (backTo pos (starEach es X.env)).any (·.1) = false := by rfl) : DE X W (.Call (.Name x p) (e :: es) [] pos) (eCB g f) :=
  let ⟨_, h1, h2⟩ := hc; let ⟨_, p1, q1⟩ := ha; ⟨_, pe_callTy h1 hg hm hv p1 hn hdb he hpl, simE_cb q1 h2⟩
end

/-! ### operations on ints -/
def gI (g : Int → Int → D) : GF := fun d e μ => match d, e with
  | .int i, .int j => .val (g i j) μ
  | _, _ => .fail
def orG (g h : GF) : GF := fun d e μ => match g d e μ with
  | .val z μ => .val z μ
  | .exc x μ => .exc x μ
  | .fail => h d e μ
section
variable {K : PySem.W.Frag} {W : WX}
theorem SimO.or {r r' : R2} {g h : GF} (h1 : SimO K W r g) (h2 : SimO K W r' h) : SimO K W (fun x y H Q => r x y H Q ∨ r' x y H Q) (orG g h) := ⟨fun {H0 S0 ad0 tmp ρ μ σ H Q x y d e} R k => by
  unfold orG at k
  cases e1 : g d e μ with
  | fail => rw [e1] at k; exact .inr (h2.run R k)
  | exc x μ1 => rw [e1] at k; exact .inl (h1.run R (by rw [e1]; exact k))
  | val z μ1 => rw [e1] at k; exact .inl (h1.run R (by rw [e1]; exact k))⟩
theorem simO_I0 {g : Int → Int → V} {g' : Int → Int → D} (h : ∀ i j, Flat (g i j) (g' i j)) : SimO K W (rI0 g) (gI g') := ⟨fun {H0 S0 ad0 tmp ρ μ σ H Q x y d e} R k => by
  obtain ⟨S, ad, c, r1, r2⟩ := R.two
  unfold gI at k
  split at k
  · rename_i i j
    cases r1; cases r2
    exact ⟨i, j, rfl, rfl, k _ _ (c.flat (h i j))⟩
  · exact k.elim⟩
def gIc (C : Int → Int → Prop) [∀ i j, Decidable (C i j)] (g : Int → Int → D) : GF := fun d e μ => match d, e with
  | .int i, .int j => if C i j then .val (g i j) μ else .fail
  | _, _ => .fail
theorem simO_I {C C' : Int → Int → Prop} [∀ i j, Decidable (C' i j)] {g : Int → Int → V} {g' : Int → Int → D} (hC : ∀ i j, C' i j → C i j) (h : ∀ i j, Flat (g i j) (g' i j)) : SimO K W (rI C g) (gIc C' g') := ⟨fun {H0 S0 ad0 tmp ρ μ σ H Q x y d e} R k => by
  obtain ⟨S, ad, c, r1, r2⟩ := R.two
  unfold gIc at k
  split at k
  · rename_i i j
    cases r1; cases r2
    split at k
    · rename_i hc
      exact ⟨i, j, rfl, rfl, hC i j hc, k _ _ (c.flat (h i j))⟩
    · exact k.elim
  · exact k.elim⟩
end
/-! ### sequences -/
/-- the items of a list (frozen or a cell) -/
@[simp] def lsOf (d : D) (μ : Mu) : Option (List D) := match d with
  | .lst xs => some xs
  | .ref n => (match μ[n]? with
    | some (.lst xs) => some xs
    | _ => none)
  | _ => none
/-- the items of a list, a tuple, the script -/
@[simp] def sqOf (d : D) (μ : Mu) : Option (List D) := match d with
  | .lst xs => some xs
  | .tup xs => some xs
  | .scr ns => some (mapD D.int ns)
  | .ref n => (match μ[n]? with
    | some (.lst xs) => some xs
    | _ => none)
  | _ => none
section
variable {K : PySem.W.Frag} {W : WX} {H0 S0 : Hp} {ad0 : Ad} {S : Hp} {ad : Ad} {tmp : List (V × D)} {ρ : Ro} {μ : Mu} {σ : L2.St} {H : Hp} {x v : V} {d : D} {ds : List D}
theorem lsOf_at (c : Core K H0 S0 ad0 S ad tmp ρ μ σ H) (r : Rp K S ad v d) (h : lsOf d μ = some ds) : ∃ a xs, v = .ref a ∧ H a = some (.lst xs) ∧ RpL K S ad xs ds := by
  cases r <;> simp only [lsOf] at h <;> first | cases h | skip
  · rename_i a xs hs r
    exact ⟨a, xs, rfl, c.sh _ _ hs, r⟩
  · rename_i a n ha
    split at h
    · rename_i xs hm
      cases h
      obtain ⟨ys, h1, h2⟩ := c.at_ n a _ ha hm
      exact ⟨a, ys, rfl, h1, h2⟩
    · cases h
/-- a list or a tuple that stands in H -/
def SqH (K : PySem.W.Frag) (H : Hp) (a : Addr) (xs : List V) : Prop := SqL K H a xs ∨ SqT K H a xs
theorem sqOf_at (c : Core K H0 S0 ad0 S ad tmp ρ μ σ H) (r : Rp K S ad v d) (h : sqOf d μ = some ds) : ∃ a xs, v = .ref a ∧ (SqL K H a xs ∨ SqT K H a xs) ∧ RpL K S ad xs ds := by
  cases r <;> simp only [sqOf] at h <;> first | cases h | skip
  · rename_i a xs hs r
    exact ⟨a, xs, rfl, .inr (.of (c.sh _ _ hs)), r⟩
  · rename_i a xs hs r
    exact ⟨a, xs, rfl, .inl (.of (c.sh _ _ hs)), r⟩
  · rename_i a ns hs
    exact ⟨a, _, rfl, .inl (c.sh.seq hs), .of_ints ns⟩
  · rename_i a n ha
    split at h
    · rename_i xs hm
      cases h
      obtain ⟨ys, h1, h2⟩ := c.at_ n a _ ha hm
      exact ⟨a, ys, rfl, .inl (.of h1), h2⟩
    · cases h
end
/-- .. + .. -/
def gCat : GF := fun d e μ => match lsOf d μ, lsOf e μ with
  | some xs, some ys => if xs.length + ys.length ≤ 100000 then .val (.lst (xs ++ ys)) μ else .fail
  | _, _ => .fail
def gCatT : GF := fun d e μ => match d, e with
  | .tup (x :: xs), .tup (y :: ys) => if xs.length + ys.length + 2 ≤ 100000 then .val (.tup ((x :: xs) ++ (y :: ys))) μ else .fail
  | _, _ => .fail
def gCatS : GF := fun d e μ => match d, e with
  | .str i, .str j => if i.length + j.length ≤ 100000 then .val (.str (i ++ j)) μ else .fail
  | _, _ => .fail
section
variable {K : PySem.W.Frag} {W : WX}
theorem simO_cat : SimO K W rCat gCat := ⟨fun {H0 S0 ad0 tmp ρ μ σ H Q x y d e} R k => by
  obtain ⟨S, ad, c, r1, r2⟩ := R.two
  unfold gCat at k
  split at k
  · rename_i xs ys h1 h2
    split at k
    · rename_i hz
      obtain ⟨a, vs, rfl, e1, q1⟩ := lsOf_at c r1 h1
      obtain ⟨b, ws, rfl, e2, q2⟩ := lsOf_at c r2 h2
      exact ⟨a, b, vs, ws, rfl, rfl, e1, e2, sz_of (by rw [q1.length, q2.length]; exact hz), fun p hp => k _ _ (newLst c (q1.append q2) hp)⟩
    · exact k.elim
  · exact k.elim⟩
theorem simO_catS : SimO K W (fun x y H Q => ∃ i j, x = .str i ∧ y = .str j ∧ i.length + j.length ≤ sizeLine ∧ Q (.str (i ++ j)) H) gCatS := ⟨fun {H0 S0 ad0 tmp ρ μ σ H Q x y d e} R k => by
  obtain ⟨S, ad, c, r1, r2⟩ := R.two
  unfold gCatS at k
  split at k
  · rename_i i j
    cases r1; cases r2
    split at k
    · rename_i hz
      exact ⟨i, j, rfl, rfl, sz_of hz, k _ _ (c.flat (flat_str _))⟩
    · exact k.elim
  · exact k.elim⟩
theorem simO_catT : SimO K W (rCatT K) gCatT := ⟨fun {H0 S0 ad0 tmp ρ μ σ H Q x y d e} R k => by
  obtain ⟨S, ad, c, r1, r2⟩ := R.two
  unfold gCatT at k
  split at k
  · rename_i d0 ds e0 es
    cases r1 with
    | tup h1 q1 =>
      cases r2 with
      | tup h2 q2 =>
        rename_i a vs b ws
        split at k
        · rename_i hz
          have l1 := q1.length
          have l2 := q2.length
          refine ⟨a, b, vs, ws, rfl, rfl, .inl (.inl (c.sh _ _ h1)), .inl (.inl (c.sh _ _ h2)), ?_, sz_of (by rw [l1, l2, List.length_cons, List.length_cons]; omega), ?_⟩
          · intro z
            rw [z] at l1
            simp at l1
          · refine ⟨fun z => ?_, fun z => fun p hp => k _ _ (newTup c (q1.append q2) hp)⟩
            rw [z] at l2
            simp at l2
        · exact k.elim
  · exact k.elim⟩
end
def gAdd : GF := orG (gI fun i j => .int (i + j)) (orG gCatS (orG gCat gCatT))
def gMinus : GF := gI fun i j => .int (i - j)
/-- products are far below the model's line -/
def MulOk (i j : Int) : Prop := i.natAbs.log2 + j.natAbs.log2 < 10000000
instance (i j : Int) : Decidable (MulOk i j) := by unfold MulOk; infer_instance
def DivOk (_ j : Int) : Prop := 0 < j ∧ j.natAbs.log2 < 9000
instance (i j : Int) : Decidable (DivOk i j) := by unfold DivOk; infer_instance
def gMulI : GF := gIc MulOk fun i j => .int (i * j)
def gDiv : GF := gIc DivOk fun i j => .int (i / j)
def gMod : GF := gIc (fun _ j => 0 < j) fun i j => .int (i % j)
def gPow : GF := gIc (fun i j => 0 ≤ j ∧ j ≤ 1000000 ∧ i.natAbs < 2 ^ 64) fun i j => .int (i ^ j.toNat)
def gLt : GF := gI fun i j => .bl (decide (i < j))
def gLe : GF := gI fun i j => .bl (decide (i ≤ j))
def gGt : GF := gI fun i j => .bl (decide (j < i))
def gGe : GF := gI fun i j => .bl (decide (j ≤ i))
theorem mulOk_ok {i j : Int} (h : MulOk i j) : IntMulOk i j := by
  have h : i.natAbs.log2 + j.natAbs.log2 < 10000000 := h
  have e : (2 : Nat) ^ 27 = 134217728 := by decide
  have h1 : Builtin.Int.intBits i ≤ i.natAbs.log2 + 1 := by
    unfold Builtin.Int.intBits
    split
    · omega
    · exact Nat.le_refl _
  have h2 : Builtin.Int.intBits j ≤ j.natAbs.log2 + 1 := by
    unfold Builtin.Int.intBits
    split
    · omega
    · exact Nat.le_refl _
  have h3 : Builtin.Int.intTooBig (Builtin.Int.intBits i + Builtin.Int.intBits j) = false := by
    unfold Builtin.Int.intTooBig bitsLine
    exact decide_eq_false (by omega)
  unfold IntMulOk
  rw [h3]
  simp
section
variable {X : Cx} {W : WX}
theorem op_mulX : OpR X (binaryOp .Mult) (rI IntMulOk fun i j => .int (i * j)) := opI fun _ _ _ _ _ _ _ hc q => mul_int q hc
theorem oo_add : OpO X W .Add gAdd := ⟨_, op_add.or (op_add_str.or (op_cat.or op_catT)), (simO_I0 fun i j => flat_int _).or (simO_catS.or (simO_cat.or simO_catT))⟩
theorem oo_sub : OpO X W .Sub gMinus := ⟨_, op_sub, simO_I0 fun i j => flat_int _⟩
theorem oo_mulI : OpO X W .Mult gMulI := ⟨_, op_mulX, simO_I (fun _ _ h => mulOk_ok h) fun i j => flat_int _⟩
theorem oo_div : OpO X W .FloorDiv gDiv := ⟨_, op_fdivW, simO_I (fun _ _ h => h) fun i j => flat_int _⟩
theorem oo_mod : OpO X W .Mod gMod := ⟨_, op_mod, simO_I (fun _ _ h => h) fun i j => flat_int _⟩
theorem oo_pow : OpO X W .Pow gPow := ⟨_, op_pow, simO_I (fun _ _ h => h) fun i j => flat_int _⟩
theorem oc_lt : CmO X W .Lt gLt := ⟨_, op_lt, simO_I0 fun i j => flat_bl _⟩
theorem oc_le : CmO X W .LtE gLe := ⟨_, op_le, simO_I0 fun i j => flat_bl _⟩
theorem oc_gt : CmO X W .Gt gGt := ⟨_, op_gt, simO_I0 fun i j => flat_bl _⟩
theorem oc_ge : CmO X W .GtE gGe := ⟨_, op_ge, simO_I0 fun i j => flat_bl _⟩
def gNeg : D → Mu → Res D := fun d μ => match d with
  | .int i => .val (.int (-i)) μ
  | _ => .fail
theorem ou_neg : UnO X W .USub gNeg := ⟨_, un_neg, ⟨fun {H0 S0 ad0 tmp ρ μ σ H Q x d} R k => by
  obtain ⟨S, ad, c, r⟩ := R.one
  unfold gNeg at k
  split at k
  · cases r
    exact ⟨_, rfl, k _ _ (c.flat (flat_int _))⟩
  · exact k.elim⟩⟩
end
/-! ### == of data -/
mutual
@[simp] def toPy : D → Option PyData
  | .non => some .none
  | .bl b => some (.bool b)
  | .int i => some (.int i)
  | .str x => some (.str x)
  | .tup xs => (toPyL xs).map .tuple
  | .lst xs => (toPyL xs).map .list
  | _ => none
@[simp] def toPyL : List D → Option (List PyData)
  | [] => some []
  | x :: xs => (toPy x).bind fun p => (toPyL xs).map (p :: ·)
end
section
variable {K : PySem.W.Frag} {S H : Hp} {ad : Ad}
mutual
theorem toPy_dp (e : Same S H) : ∀ {d : D} {v : V} {p : PyData}, Rp K S ad v d → toPy d = some p → Dp K H v p
  | .non, _, _, r, h => by cases r; simp only [toPy] at h; cases h; exact .non
  | .bl b, _, _, r, h => by cases r; simp only [toPy] at h; cases h; exact .bl b
  | .int i, _, _, r, h => by cases r; simp only [toPy] at h; cases h; exact .int i
  | .str s, _, _, r, h => by cases r; simp only [toPy] at h; cases h; exact .str s
  | .tup xs, _, _, r, h => by
    cases r with
    | tup hs hr =>
      simp only [toPy, Option.map_eq_some_iff] at h
      obtain ⟨ps, h1, rfl⟩ := h
      exact .tup (.of (e _ _ hs)) (toPyL_dp e hr h1)
  | .lst xs, _, _, r, h => by
    cases r with
    | lst hs hr =>
      simp only [toPy, Option.map_eq_some_iff] at h
      obtain ⟨ps, h1, rfl⟩ := h
      exact .lst (.of (e _ _ hs)) (toPyL_dp e hr h1)
  | .scr _, _, _, _, h => by simp [toPy] at h
  | .ref _, _, _, _, h => by simp [toPy] at h
  | .raw _, _, _, _, h => by simp [toPy] at h
theorem toPyL_dp (e : Same S H) : ∀ {ds : List D} {vs : List V} {ps : List PyData}, RpL K S ad vs ds → toPyL ds = some ps → DpAll K H vs ps
  | [], _, _, r, h => by cases r; simp only [toPyL] at h; cases h; exact .nil
  | d :: ds, _, _, r, h => by
    cases r with
    | cons r1 r2 =>
      simp only [toPyL, Option.bind_eq_some_iff, Option.map_eq_some_iff] at h
      obtain ⟨p, h1, ps, h2, rfl⟩ := h
      exact .cons (toPy_dp e r1 h1) (toPyL_dp e r2 h2)
end
end
/-- a cell's list read as data -/
@[simp] def unref (d : D) (μ : Mu) : D := match d with
  | .ref n => (match μ[n]? with
    | some (.lst xs) => .lst xs
    | _ => .ref n)
  | d => d
@[simp] def topPy (d : D) (μ : Mu) : Option PyData := toPy (unref d μ)
theorem topPy_dp {K : PySem.W.Frag} {H0 S0 : Hp} {ad0 : Ad} {S : Hp} {ad : Ad} {tmp : List (V × D)} {ρ : Ro} {μ : Mu} {σ : L2.St} {H : Hp} {v : V} {d : D} {p : PyData} (c : Core K H0 S0 ad0 S ad tmp ρ μ σ H) (r : Rp K S ad v d) (h : topPy d μ = some p) : Dp K H v p := by
  unfold topPy unref at h
  split at h
  · rename_i n
    split at h
    · rename_i xs hm
      cases r with
      | ref ha =>
        obtain ⟨ys, h1, h2⟩ := c.at_ n _ _ ha hm
        simp only [toPy, Option.map_eq_some_iff] at h
        obtain ⟨ps, h3, rfl⟩ := h
        exact .lst (.of h1) (toPyL_dp c.sh h2 h3)
    · simp [toPy] at h
  · exact toPy_dp c.sh r h
def gEqD : GF := fun d e μ => match topPy d μ, topPy e μ with
  | some p, some q => if SeqAt.shaped p = true ∧ SeqAt.shaped q = true then .val (.bl (PyData.eqv p q)) μ else .fail
  | _, _ => .fail
def gNeD : GF := fun d e μ => match topPy d μ, topPy e μ with
  | some p, some q => if SeqAt.shaped p = true ∧ SeqAt.shaped q = true then .val (.bl (!PyData.eqv p q)) μ else .fail
  | _, _ => .fail
def gEqS : GF := fun d e μ => match d, e with
  | .int i, .int j => .val (.bl (decide (i = j))) μ
  | .str i, .str j => .val (.bl (decide (i = j))) μ
  | .bl i, .bl j => .val (.bl (decide (i = j))) μ
  | _, _ => .fail
def gNeS : GF := fun d e μ => match d, e with
  | .int i, .int j => .val (.bl (!decide (i = j))) μ
  | .str i, .str j => .val (.bl (!decide (i = j))) μ
  | .bl i, .bl j => .val (.bl (!decide (i = j))) μ
  | _, _ => .fail
section
variable {K : PySem.W.Frag} {W : WX}
theorem simO_eqD : SimO K W (rEqD K) gEqD := ⟨fun {H0 S0 ad0 tmp ρ μ σ H Q x y d e} R k => by
  obtain ⟨S, ad, c, r1, r2⟩ := R.two
  unfold gEqD at k
  split at k
  · rename_i p q h1 h2
    split at k
    · rename_i hs
      exact ⟨p, q, topPy_dp c r1 h1, topPy_dp c r2 h2, hs.1, hs.2, k _ _ (c.flat (flat_bl _))⟩
    · exact k.elim
  · exact k.elim⟩
theorem simO_neD : SimO K W (rNeD K) gNeD := ⟨fun {H0 S0 ad0 tmp ρ μ σ H Q x y d e} R k => by
  obtain ⟨S, ad, c, r1, r2⟩ := R.two
  unfold gNeD at k
  split at k
  · rename_i p q h1 h2
    split at k
    · rename_i hs
      exact ⟨p, q, topPy_dp c r1 h1, topPy_dp c r2 h2, hs.1, hs.2, k _ _ (c.flat (flat_bl _))⟩
    · exact k.elim
  · exact k.elim⟩
theorem dec_V_int {i j : Int} : decide (V.int i = V.int j) = decide (i = j) := by by_cases h : i = j <;> simp [h]
theorem dec_V_str {i j : Str} : decide (V.str i = V.str j) = decide (i = j) := by by_cases h : i = j <;> simp [h]
theorem dec_V_bl {i j : Bool} : decide (V.bl i = V.bl j) = decide (i = j) := by by_cases h : i = j <;> simp [h]
theorem simO_eqS : SimO K W rEq gEqS := ⟨fun {H0 S0 ad0 tmp ρ μ σ H Q x y d e} R k => by
  obtain ⟨S, ad, c, r1, r2⟩ := R.two
  unfold gEqS at k
  split at k
  · cases r1; cases r2
    exact ⟨rfl, by rw [dec_V_int]; exact k _ _ (c.flat (flat_bl _))⟩
  · cases r1; cases r2
    exact ⟨rfl, by rw [dec_V_str]; exact k _ _ (c.flat (flat_bl _))⟩
  · cases r1; cases r2
    exact ⟨rfl, by rw [dec_V_bl]; exact k _ _ (c.flat (flat_bl _))⟩
  · exact k.elim⟩
theorem simO_neS : SimO K W rNe gNeS := ⟨fun {H0 S0 ad0 tmp ρ μ σ H Q x y d e} R k => by
  obtain ⟨S, ad, c, r1, r2⟩ := R.two
  unfold gNeS at k
  split at k
  · cases r1; cases r2
    exact ⟨rfl, by rw [dec_V_int]; exact k _ _ (c.flat (flat_bl _))⟩
  · cases r1; cases r2
    exact ⟨rfl, by rw [dec_V_str]; exact k _ _ (c.flat (flat_bl _))⟩
  · cases r1; cases r2
    exact ⟨rfl, by rw [dec_V_bl]; exact k _ _ (c.flat (flat_bl _))⟩
  · exact k.elim⟩
/-- is None, is not None -/
def isNon : D → Option Bool
  | .non => some true
  | .raw _ => none
  | _ => some false
def gIsN : GF := fun d e μ => match e, isNon d with
  | .non, some b => .val (.bl b) μ
  | _, _ => .fail
def gNotN : GF := fun d e μ => match e, isNon d with
  | .non, some b => .val (.bl (!b)) μ
  | _, _ => .fail
theorem isNon_at {S : Hp} {ad : Ad} {v : V} {d : D} {b : Bool} (r : Rp K S ad v d) (h : isNon d = some b) : decide (v = .non) = b := by
  cases r <;> simp only [isNon] at h <;> cases h <;> simp
theorem simO_isN : SimO K W (fun x y H Q => y = .non ∧ Q (.bl (decide (x = .non))) H) gIsN := ⟨fun {H0 S0 ad0 tmp ρ μ σ H Q x y d e} R k => by
  obtain ⟨S, ad, c, r1, r2⟩ := R.two
  unfold gIsN at k
  split at k
  · rename_i b hb
    cases r2
    exact ⟨rfl, by rw [isNon_at r1 hb]; exact k _ _ (c.flat (flat_bl _))⟩
  · exact k.elim⟩
theorem simO_notN : SimO K W (fun x y H Q => y = .non ∧ Q (.bl (!decide (x = .non))) H) gNotN := ⟨fun {H0 S0 ad0 tmp ρ μ σ H Q x y d e} R k => by
  obtain ⟨S, ad, c, r1, r2⟩ := R.two
  unfold gNotN at k
  split at k
  · rename_i b hb
    cases r2
    exact ⟨rfl, by rw [isNon_at r1 hb]; exact k _ _ (c.flat (flat_bl _))⟩
  · exact k.elim⟩
end
def gEq : GF := orG gEqS gEqD
def gNe : GF := orG gNeS gNeD
section
variable {X : Cx} {W : WX}
theorem oc_eq (hu : X.A.units + 64 < cLine) : CmO X W .Eq gEq := ⟨_, op_eq.or (op_eqD hu), simO_eqS.or simO_eqD⟩
theorem oc_ne (hu : X.A.units + 64 < cLine) : CmO X W .NotEq gNe := ⟨_, op_ne.or (op_neD hu), simO_neS.or simO_neD⟩
theorem oc_is : CmO X W .Is gIsN := ⟨_, op_isN, simO_isN⟩
theorem oc_isnot : CmO X W .IsNot gNotN := ⟨_, op_notN, simO_notN⟩
end
/-! ### items, slices, len, list, tuple -/
def gIx : GF := fun d e μ => match e with
  | .int i => (match d with
    | .str z => if z.length ≤ 100000 then (match atI z.cps.toList i with
      | some c => .val (.str ⟨#[c]⟩) μ
      | none => .fail) else .fail
    | d => (match sqOf d μ with
      | some xs => (match atI xs i with
        | some x => .val x μ
        | none => .fail)
      | none => .fail))
  | _ => .fail
section
variable {K : PySem.W.Frag} {W : WX}
theorem atI_rp {S : Hp} {ad : Ad} {vs : List V} {ds : List D} (r : RpL K S ad vs ds) {i : Int} {d : D} (h : atI ds i = some d) : ∃ v, atI vs i = some v ∧ Rp K S ad v d := by
  unfold atI at h ⊢
  rw [r.length]
  cases e : ixN ds.length i with
  | none => rw [e] at h; cases h
  | some j =>
    rw [e] at h
    exact r.get (i := j) h
theorem simO_ix : SimO K W (fun x y H Q => rIxL K x y H Q ∨ rIxT K x y H Q ∨ rIxS x y H Q) gIx := ⟨fun {H0 S0 ad0 tmp ρ μ σ H Q x y d e} R k => by
  obtain ⟨S, ad, c, r1, r2⟩ := R.two
  unfold gIx at k
  split at k
  · rename_i i
    cases r2
    split at k
    · rename_i z
      cases r1
      split at k
      · rename_i hz
        split at k
        · rename_i ch hch
          exact .inr (.inr ⟨z, i, ch, rfl, rfl, sz_of hz, hch, k _ _ (c.flat (flat_str _))⟩)
        · exact k.elim
      · exact k.elim
    · split at k
      · rename_i xs hs
        split at k
        · rename_i d1 hd
          obtain ⟨a, vs, rfl, q, rv⟩ := sqOf_at c r1 hs
          obtain ⟨v, h1, h2⟩ := atI_rp rv hd
          rcases q with q | q
          · exact .inl ⟨a, vs, i, v, rfl, rfl, q, h1, k _ _ ⟨S, ad, c.push h2⟩⟩
          · exact .inr (.inl ⟨a, vs, i, v, rfl, rfl, q, h1, k _ _ ⟨S, ad, c.push h2⟩⟩)
        · exact k.elim
      · exact k.elim
  · exact k.elim⟩
end
section
variable {X : Cx} {W : WX} {a b e : Expr} {fa fb fe : EF} {pos p2 : Pos}
theorem de_ix (ha : DE X W a fa) (hb : DE X W b fb) (hs : PlainIx b := by exact fun _ _ => rfl) : DE X W (.Subscript a b pos) (eOp gIx fa fb) :=
  let ⟨_, p1, q1⟩ := ha; let ⟨_, p2, q2⟩ := hb; ⟨_, pe_ix ix_seq p1 p2 hs, simE_op q1 q2 simO_ix⟩
/-- slices -/
abbrev OF := Ro → Mu → Res (Option Int)
@[simp] def oNone : OF := fun _ μ => .val none μ
@[simp] def oSome (f : EF) : OF := fun ρ μ => (f ρ μ).bind fun d μ1 => match d with
  | .int i => .val (some i) μ1
  | _ => .fail
def PostO (K : PySem.W.Frag) (W : WX) (H0 S0 : Hp) (ad0 : Ad) (tmp : List (V × D)) (ρ : Ro) (σ : L2.St) (Q : Option Int → Hp → Prop) : Res (Option Int) → Prop
  | .val o μ => ∀ H, Rel K H0 S0 ad0 tmp ρ μ σ H → Q o H
  | .exc x μ => ∀ cls dd H, RelX K H0 S0 ad0 tmp ρ μ σ H x cls dd → W cls dd σ H
  | .fail => False
structure SimP (K : PySem.W.Frag) (W : WX) (t : TO) (f : OF) : Prop where
  run : ∀ {H0 S0 : Hp} {ad0 : Ad} {tmp : List (V × D)} {ρ : Ro} {μ : Mu} {σ : L2.St} {H : Hp} {Q : Option Int → Hp → Prop}, Rel K H0 S0 ad0 tmp ρ μ σ H → PostO K W H0 S0 ad0 tmp ρ σ Q (f ρ μ) → t σ H Q
def DO (X : Cx) (W : WX) (e : Option Expr) (f : OF) : Prop := ∃ t, PO X e t ∧ SimP X.K W t f
theorem do_none : DO X W none oNone := ⟨_, po_none, ⟨fun R h => h _ R⟩⟩
theorem do_some (h : DE X W e fe) : DO X W (some e) (oSome fe) := let ⟨_, p1, q1⟩ := h; ⟨_, po_some p1, ⟨fun {H0 S0 ad0 tmp ρ μ σ H Q} R k => by
  refine q1.run R ?_
  unfold oSome at k
  cases e1 : fe ρ μ with
  | fail => rw [e1] at k; exact k.elim
  | exc x μ1 => rw [e1] at k; exact k
  | val d μ1 =>
    rw [e1] at k
    intro v H1 R1
    cases d <;> first | exact k.elim | skip
    obtain ⟨S, ad, c, r⟩ := R1.one
    cases r
    exact ⟨_, rfl, k _ ⟨S, ad, c⟩⟩⟩⟩
def cutD (xs : List D) (lo hi : Option Int) : List D := (xs.drop (HT.sIx xs.length 0 lo)).take (HT.sIx xs.length xs.length hi - HT.sIx xs.length 0 lo)
def eSl (f : EF) (l h : OF) : EF := fun ρ μ => (f ρ μ).bind fun d μ1 => (l ρ μ1).bind fun lo μ2 => (h ρ μ2).bind fun hi μ3 => match d with
  | .tup xs => if (cutD xs lo hi).length = xs.length then .fail else .val (.tup (cutD xs lo hi)) μ3
  | d => (match lsOf d μ3 with
    | some xs => .val (.lst (cutD xs lo hi)) μ3
    | none => .fail)
theorem cut_rp {K : PySem.W.Frag} {S : Hp} {ad : Ad} {vs : List V} {ds : List D} (r : RpL K S ad vs ds) (lo hi : Option Int) : RpL K S ad (cutV vs lo hi) (cutD ds lo hi) := by
  unfold cutV cutD
  rw [r.length]
  exact (r.drop _).take _
end
end Dn

/-! Dn4: slices, built-ins, methods of lists, what loops walk, comprehensions, defs and their calls. -/
namespace Dn
open PySem PySem.Spec PyProof.Rows L2
noncomputable section
/-- a count of turns; what decides it is hidden, so that nothing unfolds it -/
structure Rng (n : Int) : Prop where
  lo : -(2 ^ 62) ≤ n
  hi : n < 2 ^ 62
noncomputable instance (n : Int) : Decidable (Rng n) := Classical.propDecidable _
theorem rng_nat {n : Nat} (h : n ≤ 1000000000) : Rng (n : Int) := ⟨by omega, by omega⟩
@[simp] theorem rng_0 : Rng 0 := ⟨by decide, by decide⟩
@[simp] theorem rng_1 : Rng 1 := ⟨by decide, by decide⟩
@[simp] theorem rng_2 : Rng 2 := ⟨by decide, by decide⟩
@[simp] theorem rng_3 : Rng 3 := ⟨by decide, by decide⟩
@[simp] theorem rng_4 : Rng 4 := ⟨by decide, by decide⟩
@[simp] theorem rng_5 : Rng 5 := ⟨by decide, by decide⟩
@[simp] theorem rng_6 : Rng 6 := ⟨by decide, by decide⟩
@[simp] theorem rng_7 : Rng 7 := ⟨by decide, by decide⟩
@[simp] theorem rng_8 : Rng 8 := ⟨by decide, by decide⟩
@[simp] theorem rng_9 : Rng 9 := ⟨by decide, by decide⟩
@[simp] theorem rng_10 : Rng 10 := ⟨by decide, by decide⟩
@[simp] theorem rng_11 : Rng 11 := ⟨by decide, by decide⟩
@[simp] theorem rng_12 : Rng 12 := ⟨by decide, by decide⟩
@[simp] theorem rng_13 : Rng 13 := ⟨by decide, by decide⟩
@[simp] theorem rng_14 : Rng 14 := ⟨by decide, by decide⟩
@[simp] theorem rng_15 : Rng 15 := ⟨by decide, by decide⟩
@[simp] theorem rng_16 : Rng 16 := ⟨by decide, by decide⟩
@[simp] theorem rng_17 : Rng 17 := ⟨by decide, by decide⟩
@[simp] theorem rng_18 : Rng 18 := ⟨by decide, by decide⟩
@[simp] theorem rng_19 : Rng 19 := ⟨by decide, by decide⟩
@[simp] theorem rng_20 : Rng 20 := ⟨by decide, by decide⟩
@[simp] theorem rng_21 : Rng 21 := ⟨by decide, by decide⟩
@[simp] theorem rng_22 : Rng 22 := ⟨by decide, by decide⟩
@[simp] theorem rng_23 : Rng 23 := ⟨by decide, by decide⟩
@[simp] theorem rng_24 : Rng 24 := ⟨by decide, by decide⟩
@[simp] theorem rng_25 : Rng 25 := ⟨by decide, by decide⟩
@[simp] theorem rng_26 : Rng 26 := ⟨by decide, by decide⟩
@[simp] theorem rng_27 : Rng 27 := ⟨by decide, by decide⟩
@[simp] theorem rng_28 : Rng 28 := ⟨by decide, by decide⟩
@[simp] theorem rng_29 : Rng 29 := ⟨by decide, by decide⟩
@[simp] theorem rng_30 : Rng 30 := ⟨by decide, by decide⟩
@[simp] theorem rng_31 : Rng 31 := ⟨by decide, by decide⟩
@[simp] theorem rng_32 : Rng 32 := ⟨by decide, by decide⟩
@[simp] theorem rng_33 : Rng 33 := ⟨by decide, by decide⟩
@[simp] theorem rng_34 : Rng 34 := ⟨by decide, by decide⟩
@[simp] theorem rng_35 : Rng 35 := ⟨by decide, by decide⟩
@[simp] theorem rng_36 : Rng 36 := ⟨by decide, by decide⟩
@[simp] theorem rng_37 : Rng 37 := ⟨by decide, by decide⟩
@[simp] theorem rng_38 : Rng 38 := ⟨by decide, by decide⟩
@[simp] theorem rng_39 : Rng 39 := ⟨by decide, by decide⟩
@[simp] theorem rng_40 : Rng 40 := ⟨by decide, by decide⟩
@[simp] theorem rng_41 : Rng 41 := ⟨by decide, by decide⟩
@[simp] theorem rng_42 : Rng 42 := ⟨by decide, by decide⟩
@[simp] theorem rng_43 : Rng 43 := ⟨by decide, by decide⟩
@[simp] theorem rng_44 : Rng 44 := ⟨by decide, by decide⟩
@[simp] theorem rng_45 : Rng 45 := ⟨by decide, by decide⟩
@[simp] theorem rng_46 : Rng 46 := ⟨by decide, by decide⟩
@[simp] theorem rng_47 : Rng 47 := ⟨by decide, by decide⟩
@[simp] theorem rng_48 : Rng 48 := ⟨by decide, by decide⟩
@[simp] theorem rng_49 : Rng 49 := ⟨by decide, by decide⟩
@[simp] theorem rng_50 : Rng 50 := ⟨by decide, by decide⟩
@[simp] theorem rng_51 : Rng 51 := ⟨by decide, by decide⟩
@[simp] theorem rng_52 : Rng 52 := ⟨by decide, by decide⟩
@[simp] theorem rng_53 : Rng 53 := ⟨by decide, by decide⟩
@[simp] theorem rng_54 : Rng 54 := ⟨by decide, by decide⟩
@[simp] theorem rng_55 : Rng 55 := ⟨by decide, by decide⟩
@[simp] theorem rng_56 : Rng 56 := ⟨by decide, by decide⟩
@[simp] theorem rng_57 : Rng 57 := ⟨by decide, by decide⟩
@[simp] theorem rng_58 : Rng 58 := ⟨by decide, by decide⟩
@[simp] theorem rng_59 : Rng 59 := ⟨by decide, by decide⟩
@[simp] theorem rng_60 : Rng 60 := ⟨by decide, by decide⟩
@[simp] theorem rng_61 : Rng 61 := ⟨by decide, by decide⟩
@[simp] theorem rng_62 : Rng 62 := ⟨by decide, by decide⟩
@[simp] theorem rng_63 : Rng 63 := ⟨by decide, by decide⟩
@[simp] theorem rng_64 : Rng 64 := ⟨by decide, by decide⟩

/-! ### slices -/
@[simp] def gSl : D → Option Int → Option Int → Mu → Res D := fun d lo hi μ => match d with
  | .str z => if z.length ≤ 100000 then .val (.str (cutS z lo hi)) μ else .fail
  | .tup xs => .val (.tup (cutD xs lo hi)) μ
  | d => (match lsOf d μ with
    | some xs => .val (.lst (cutD xs lo hi)) μ
    | none => .fail)
@[simp] def eSlice (f : EF) (l h : OF) : EF := fun ρ μ => (f ρ μ).bind fun d μ1 => (l ρ μ1).bind fun lo μ2 => (h ρ μ2).bind fun hi μ3 => gSl d lo hi μ3
theorem cutD_whole {xs : List D} {lo hi : Option Int} (h : HT.sIx xs.length 0 lo = 0 ∧ HT.sIx xs.length xs.length hi = xs.length) : cutD xs lo hi = xs := by
  unfold cutD
  rw [h.1, h.2, Nat.sub_zero, List.drop_zero, List.take_length]
section
variable {X : Cx} {W : WX} {a b e : Expr} {fa fb fe : EF} {pos p2 : Pos} {lo hi : Option Expr} {fl fh : OF}
theorem de_slice (ha : DE X W a fa) (hl : DO X W lo fl) (hh : DO X W hi fh) : DE X W (.Subscript a (.Slice lo hi none p2) pos) (eSlice fa fl fh) := by
  obtain ⟨ta, p1, q1⟩ := ha
  obtain ⟨tl, p2', q2⟩ := hl
  obtain ⟨th, p3, q3⟩ := hh
  refine ⟨_, pe_slice (sl_list.or (sl_tupA.or sl_str)) p1 p2' p3, ⟨fun {H0 S0 ad0 tmp ρ μ σ H Q} R k => ?_⟩⟩
  refine q1.run R ?_
  unfold eSlice at k
  cases e1 : fa ρ μ with
  | fail => rw [e1] at k; exact k.elim
  | exc x μ1 => rw [e1] at k; exact k
  | val d μ1 =>
    rw [e1] at k
    simp only [bind_val] at k
    intro v H1 R1
    refine q2.run R1 ?_
    cases e2 : fl ρ μ1 with
    | fail => rw [e2] at k; exact k.elim
    | exc x μ1 => rw [e2] at k; exact fun cls dd H r => k cls dd H r.pop
    | val o1 μ2 =>
      rw [e2] at k
      simp only [bind_val] at k
      intro H2 R2
      refine q3.run R2 ?_
      cases e3 : fh ρ μ2 with
      | fail => rw [e3] at k; exact k.elim
      | exc x μ1 => rw [e3] at k; exact fun cls dd H r => k cls dd H r.pop
      | val o2 μ3 =>
        rw [e3] at k
        simp only [bind_val] at k
        intro H3 R3
        obtain ⟨S, ad, c, r⟩ := R3.one
        unfold gSl at k
        split at k
        · rename_i z
          cases r
          split at k
          · rename_i hz
            exact .inr (.inr ⟨z, rfl, sz_of hz, k _ _ (c.flat (flat_str _))⟩)
          · exact k.elim
        · rename_i xs
          cases r with
          | tup hs hr =>
            rename_i p vs
            refine .inr (.inl ⟨p, vs, rfl, .of (c.sh _ _ hs), fun hw => ?_, fun _ q hq => k _ _ (newTup c (cut_rp hr o1 o2) hq)⟩)
            rw [hr.length] at hw
            rw [cutD_whole hw] at k
            exact k _ _ ⟨S, ad, c.push (.tup hs hr)⟩
        · split at k
          · rename_i xs hs
            obtain ⟨p, vs, rfl, h1, h2⟩ := lsOf_at c r hs
            exact .inl ⟨p, vs, rfl, .of h1, fun q hq => k _ _ (newLst c (cut_rp h2 o1 o2) hq)⟩
          · exact k.elim
/-- .. * n -/
def gRepT : GF := fun d e μ => match d, e with
  | .tup (x :: xs), .int k => if 2 ≤ k ∧ k ≤ 1000 ∧ xs.length ≤ 900 then .val (.tup (List.replicate k.toNat (x :: xs)).flatten) μ else .fail
  | _, _ => .fail
def gRepL : GF := fun d e μ => match lsOf d μ, e with
  | some xs, .int k => if Rng k ∧ xs.length * k.toNat ≤ 100000 then .val (.lst (List.replicate k.toNat xs).flatten) μ else .fail
  | _, _ => .fail
end
section
variable {K : PySem.W.Frag} {W : WX}
theorem rep_rp {S : Hp} {ad : Ad} {vs : List V} {ds : List D} (r : RpL K S ad vs ds) : ∀ k : Nat, RpL K S ad (List.replicate k vs).flatten (List.replicate k ds).flatten
  | 0 => .nil
  | k + 1 => by
    rw [List.replicate_succ, List.replicate_succ, List.flatten_cons, List.flatten_cons]
    exact r.append (rep_rp r k)
theorem simO_repL : SimO K W rRep gRepL := ⟨fun {H0 S0 ad0 tmp ρ μ σ H Q x y d e} R k => by
  obtain ⟨S, ad, c, r1, r2⟩ := R.two
  unfold gRepL at k
  split at k
  · rename_i xs n h1
    split at k
    · rename_i hz
      cases r2
      obtain ⟨a, vs, rfl, e1, q1⟩ := lsOf_at c r1 h1
      exact ⟨a, n, vs, rfl, rfl, e1, by have := hz.1.lo; omega, by have := hz.1.hi; omega, sz_of (by rw [q1.length]; exact hz.2), fun p hp => k _ _ (newLst c (rep_rp q1 n.toNat) hp)⟩
    · exact k.elim
  · exact k.elim⟩
theorem simO_repT : SimO K W (rRepT K) gRepT := ⟨fun {H0 S0 ad0 tmp ρ μ σ H Q x y d e} R k => by
  obtain ⟨S, ad, c, r1, r2⟩ := R.two
  unfold gRepT at k
  split at k
  · rename_i d0 ds n
    cases r1 with
    | tup h1 q1 =>
      cases r2
      split at k
      · rename_i hz
        rename_i a vs
        have l1 := q1.length
        rw [List.length_cons] at l1
        exact ⟨a, n, vs, rfl, rfl, .of (c.sh _ _ h1), fun z => by rw [z] at l1; simp at l1, hz.1, hz.2.1, by omega, fun p hp => k _ _ (newTup c (rep_rp q1 n.toNat) hp)⟩
      · exact k.elim
  · exact k.elim⟩
end
def gMul : GF := orG gMulI (orG gRepL gRepT)
section
variable {X : Cx} {W : WX}
theorem oo_mul : OpO X W .Mult gMul := ⟨_, op_mulX.or (op_rep.or op_repT), (simO_I (fun _ _ h => mulOk_ok h) fun i j => flat_int _).or (simO_repL.or simO_repT)⟩
end

/-! ### built-ins -/
@[simp] def gLen : List D → Mu → Res D := fun ds μ => match ds with
  | [.str z] => if z.length ≤ 100000 then .val (.int z.length) μ else .fail
  | [d] => (match sqOf d μ with
    | some xs => .val (.int xs.length) μ
    | none => .fail)
  | _ => .fail
/-- list(..) as a value; as a cell -/
@[simp] def gList : List D → Mu → Res D := fun ds μ => match ds with
  | [d] => (match sqOf d μ with
    | some xs => .val (.lst xs) μ
    | none => .fail)
  | _ => .fail
@[simp] def gListN : List D → Mu → Res D := fun ds μ => match ds with
  | [d] => (match sqOf d μ with
    | some xs => .val (.ref μ.length) (μ ++ [.lst xs])
    | none => .fail)
  | _ => .fail
@[simp] def gTuple : List D → Mu → Res D := fun ds μ => match ds with
  | [.tup xs] => .val (.tup xs) μ
  | [d] => (match lsOf d μ with
    | some xs => .val (.tup xs) μ
    | none => .fail)
  | _ => .fail
@[simp] def gMin2 : List D → Mu → Res D := fun ds μ => match ds with
  | [.int i, .int j] => .val (.int (if j < i then j else i)) μ
  | _ => .fail
@[simp] def gMax2 : List D → Mu → Res D := fun ds μ => match ds with
  | [.int i, .int j] => .val (.int (if j > i then j else i)) μ
  | _ => .fail
@[simp] def gAbs : List D → Mu → Res D := fun ds μ => match ds with
  | [.int i] => .val (.int (if i < 0 then -i else i)) μ
  | _ => .fail
section
variable {K : PySem.W.Frag} {W : WX} {H0 S0 : Hp} {ad0 : Ad} {S : Hp} {ad : Ad} {tmp : List (V × D)} {ρ : Ro} {μ : Mu} {σ : L2.St} {H : Hp} {x y : V} {d e : D}
theorem rpL1 {vs : List V} (r : RpL K S ad vs [d]) : ∃ v, vs = [v] ∧ Rp K S ad v d := by
  cases r with
  | cons h t => cases t; exact ⟨_, rfl, h⟩
theorem rpL2 {vs : List V} (r : RpL K S ad vs [d, e]) : ∃ v w, vs = [v, w] ∧ Rp K S ad v d ∧ Rp K S ad w e := by
  cases r with
  | cons h t =>
    obtain ⟨w, rfl, h2⟩ := rpL1 t
    exact ⟨_, w, rfl, h, h2⟩
theorem cb_len {X : Cx} : CbO X W (.builtin "len") gLen := ⟨_, call_len, ⟨fun {H0 S0 ad0 tmp ρ μ σ H Q xs ds} hl R k => by
  obtain ⟨S, ad, c, r⟩ := R.args hl
  unfold gLen at k
  split at k
  · rename_i z
    obtain ⟨v, rfl, rv⟩ := rpL1 r
    cases rv
    split at k
    · rename_i hz
      exact ⟨_, _, rfl, ⟨sz_of hz, rfl⟩, k _ _ (c.flat (flat_int _))⟩
    · exact k.elim
  · rename_i d _
    obtain ⟨v, rfl, rv⟩ := rpL1 r
    split at k
    · rename_i es hs
      obtain ⟨a, vs, rfl, q, rr⟩ := sqOf_at c rv hs
      rw [← rr.length] at k
      rcases q with q | q
      · exact ⟨_, vs.length, rfl, .inl ⟨vs, q, rfl⟩, k _ _ (c.flat (flat_int _))⟩
      · exact ⟨_, vs.length, rfl, .inr ⟨vs, q, rfl⟩, k _ _ (c.flat (flat_int _))⟩
    · exact k.elim
  · exact k.elim⟩⟩
theorem cb_list {X : Cx} : CbO X W (.type "list") gList := ⟨_, call_list_of, ⟨fun {H0 S0 ad0 tmp ρ μ σ H Q xs ds} hl R k => by
  obtain ⟨S, ad, c, r⟩ := R.args hl
  unfold gList at k
  split at k
  · rename_i d
    obtain ⟨v, rfl, rv⟩ := rpL1 r
    split at k
    · rename_i es hs
      obtain ⟨a, vs, rfl, q, rr⟩ := sqOf_at c rv hs
      exact ⟨a, vs, rfl, q, fun l hl => k _ _ (newLst c rr hl)⟩
    · exact k.elim
  · exact k.elim⟩⟩
theorem cb_listN {X : Cx} : CbO X W (.type "list") gListN := ⟨_, call_list_of, ⟨fun {H0 S0 ad0 tmp ρ μ σ H Q xs ds} hl R k => by
  obtain ⟨S, ad, c, r⟩ := R.args hl
  unfold gListN at k
  split at k
  · rename_i d
    obtain ⟨v, rfl, rv⟩ := rpL1 r
    split at k
    · rename_i es hs
      obtain ⟨a, vs, rfl, q, rr⟩ := sqOf_at c rv hs
      exact ⟨a, vs, rfl, q, fun l hl => k _ _ (newCell c rr hl)⟩
    · exact k.elim
  · exact k.elim⟩⟩
theorem cb_tuple {X : Cx} : CbO X W (.type "tuple") gTuple := ⟨_, call_tuple_of, ⟨fun {H0 S0 ad0 tmp ρ μ σ H Q xs ds} hl R k => by
  obtain ⟨S, ad, c, r⟩ := R.args hl
  unfold gTuple at k
  split at k
  · rename_i es
    obtain ⟨v, rfl, rv⟩ := rpL1 r
    cases rv with
    | tup hs rr => exact ⟨_, _, rfl, .inr ⟨.of (c.sh _ _ hs), k _ _ ⟨S, ad, c.push (.tup hs rr)⟩⟩⟩
  · rename_i d _
    obtain ⟨v, rfl, rv⟩ := rpL1 r
    split at k
    · rename_i es hs
      obtain ⟨a, vs, rfl, q, rr⟩ := lsOf_at c rv hs
      exact ⟨a, vs, rfl, .inl ⟨.of q, fun l hl => k _ _ (newTup c rr hl)⟩⟩
    · exact k.elim
  · exact k.elim⟩⟩
theorem cb_min2 {X : Cx} (hc : X.calm = true) : CbO X W (.builtin "min") gMin2 := ⟨_, call_min2 hc, ⟨fun {H0 S0 ad0 tmp ρ μ σ H Q xs ds} hl R k => by
  obtain ⟨S, ad, c, r⟩ := R.args hl
  unfold gMin2 at k
  split at k
  · rename_i i j
    obtain ⟨v, w, rfl, rv, rw⟩ := rpL2 r
    cases rv; cases rw
    exact ⟨i, j, rfl, k _ _ (c.flat (flat_int _))⟩
  · exact k.elim⟩⟩
theorem cb_max2 {X : Cx} (hc : X.calm = true) : CbO X W (.builtin "max") gMax2 := ⟨_, call_max2 hc, ⟨fun {H0 S0 ad0 tmp ρ μ σ H Q xs ds} hl R k => by
  obtain ⟨S, ad, c, r⟩ := R.args hl
  unfold gMax2 at k
  split at k
  · rename_i i j
    obtain ⟨v, w, rfl, rv, rw⟩ := rpL2 r
    cases rv; cases rw
    exact ⟨i, j, rfl, k _ _ (c.flat (flat_int _))⟩
  · exact k.elim⟩⟩
theorem cb_abs {X : Cx} : CbO X W (.builtin "abs") gAbs := ⟨_, call_abs, ⟨fun {H0 S0 ad0 tmp ρ μ σ H Q xs ds} hl R k => by
  obtain ⟨S, ad, c, r⟩ := R.args hl
  unfold gAbs at k
  split at k
  · rename_i i
    obtain ⟨v, rfl, rv⟩ := rpL1 r
    cases rv
    exact ⟨i, rfl, k _ _ (c.flat (flat_int _))⟩
  · exact k.elim⟩⟩
/-- all(xs), any(xs), xs truths -/
@[simp] def blsOf : List D → Option (List Bool)
  | [] => some []
  | .bl b :: r => (blsOf r).map (b :: ·)
  | _ :: _ => none
theorem blsOf_at {vs : List V} : ∀ {ds : List D} {bs : List Bool} {vs : List V}, RpL K S ad vs ds → blsOf ds = some bs → vs = bs.map V.bl
  | [], bs, _, r, h => by cases h; cases r; rfl
  | d :: ds, bs, _, r, h => by
    cases d <;> simp only [blsOf] at h <;> first | cases h | skip
    rename_i b
    cases r with
    | cons r1 r2 =>
      cases r1
      rw [Option.map_eq_some_iff] at h
      obtain ⟨cs, h1, rfl⟩ := h
      rw [blsOf_at (vs := vs) r2 h1]
      rfl
@[simp] def gAll : List D → Mu → Res D := fun ds μ => match ds with
  | [d] => (match (lsOf d μ).bind blsOf with
    | some bs => .val (.bl (bs.all id)) μ
    | none => .fail)
  | _ => .fail
@[simp] def gAny : List D → Mu → Res D := fun ds μ => match ds with
  | [d] => (match (lsOf d μ).bind blsOf with
    | some bs => .val (.bl (bs.any id)) μ
    | none => .fail)
  | _ => .fail
theorem cb_all {X : Cx} (hc : X.calm = true) : CbO X W (.builtin "all") gAll := ⟨_, cr_all hc, ⟨fun {H0 S0 ad0 tmp ρ μ σ H Q xs ds} hl R k => by
  obtain ⟨S, ad, c, r⟩ := R.args hl
  unfold gAll at k
  split at k
  · rename_i d
    obtain ⟨v, rfl, rv⟩ := rpL1 r
    split at k
    · rename_i bs hs
      rw [Option.bind_eq_some_iff] at hs
      obtain ⟨es, h1, h2⟩ := hs
      obtain ⟨a, vs, rfl, q, rr⟩ := lsOf_at c rv h1
      have e := blsOf_at (vs := vs) rr h2
      subst e
      exact ⟨a, bs, rfl, .of q, k _ _ (c.flat (flat_bl _))⟩
    · exact k.elim
  · exact k.elim⟩⟩
theorem cb_any {X : Cx} (hc : X.calm = true) : CbO X W (.builtin "any") gAny := ⟨_, cr_any hc, ⟨fun {H0 S0 ad0 tmp ρ μ σ H Q xs ds} hl R k => by
  obtain ⟨S, ad, c, r⟩ := R.args hl
  unfold gAny at k
  split at k
  · rename_i d
    obtain ⟨v, rfl, rv⟩ := rpL1 r
    split at k
    · rename_i bs hs
      rw [Option.bind_eq_some_iff] at hs
      obtain ⟨es, h1, h2⟩ := hs
      obtain ⟨a, vs, rfl, q, rr⟩ := lsOf_at c rv h1
      have e := blsOf_at (vs := vs) rr h2
      subst e
      exact ⟨a, bs, rfl, .of q, k _ _ (c.flat (flat_bl _))⟩
    · exact k.elim
  · exact k.elim⟩⟩
/-- isinstance(x, T), T a built-in class that is written there -/
@[simp] def tyOf (d : D) (μ : Mu) : Option String := match d with
  | .non => some "NoneType"
  | .bl _ => some "bool"
  | .int _ => some "int"
  | .str _ => some "str"
  | .tup _ => some "tuple"
  | .lst _ => some "list"
  | .ref n => (match μ[n]? with
    | some (.lst _) => some "list"
    | some (.dK _) => some "dict"
    | some (.dT _) => some "dict"
    | _ => none)
  | _ => none
theorem tyOf_at {t : String} {v : V} (c : Core K H0 S0 ad0 S ad tmp ρ μ σ H) (r : Rp K S ad v d) (h : tyOf d μ = some t) : TyX K H v (.type t) := by
  cases r <;> simp only [tyOf] at h <;> first | cases h | skip
  · exact .base .non
  · exact .base (.bl _)
  · exact .base (.int _)
  · exact .base (.str _)
  · rename_i hs _; exact .base (.tup (c.sh _ _ hs))
  · rename_i hs _; exact .base (.lst (c.sh _ _ hs))
  · rename_i a n ha
    split at h
    · rename_i hm; cases h
      obtain ⟨_, h1, _⟩ := c.at_ n a _ ha hm
      exact .base (.lst h1)
    · rename_i hm; cases h
      obtain ⟨_, h1, _⟩ := c.at_ n a _ ha hm
      exact .base (.dK h1)
    · rename_i hm; cases h
      obtain ⟨_, h1, _⟩ := c.at_ n a _ ha hm
      exact .base (.dT h1)
    · cases h
/-- the answers, by the classes' names -/
def isaB (t u : String) : Option Bool := kitB t u
@[simp] def gIsi : List D → Mu → Res D := fun ds μ => match ds with
  | [d, .raw (.ty u)] => (match (tyOf d μ).bind fun t => kitB t u with
    | some b => .val (.bl b) μ
    | none => .fail)
  | _ => .fail
theorem cb_isi {X : Cx} : CbO X W (.builtin "isinstance") gIsi := ⟨_, call_isi, ⟨fun {H0 S0 ad0 tmp ρ μ σ H Q xs ds} hl R k => by
  obtain ⟨S, ad, c, r⟩ := R.args hl
  unfold gIsi at k
  split at k
  · rename_i d u
    obtain ⟨v, w, rfl, rv, rw⟩ := rpL2 r
    cases rw
    split at k
    · rename_i b hb
      rw [Option.bind_eq_some_iff] at hb
      obtain ⟨t, h1, h2⟩ := hb
      exact ⟨v, .ty u, .type t, .type u, b, rfl, .ty u, tyOf_at c rv h1, kit_ty h2, k _ _ (c.flat (flat_bl _))⟩
    · exact k.elim
  · exact k.elim⟩⟩
/-! ### in, not in: flat values in a list or a tuple; one sign in a text -/
@[simp] def flV : D → Option V
  | .non => some .non
  | .bl b => some (.bl b)
  | .int i => some (.int i)
  | .str s => some (.str s)
  | _ => none
@[simp] def flVs : List D → Option (List V)
  | [] => some []
  | d :: ds => (flV d).bind fun v => (flVs ds).map (v :: ·)
theorem flV_at {v w : V} (r : Rp K S ad v d) (h : flV d = some w) : v = w ∧ flatV w = true := by
  cases r <;> simp only [flV] at h <;> cases h <;> exact ⟨rfl, rfl⟩
theorem flVs_at : ∀ {ds : List D} {vs ws : List V}, RpL K S ad vs ds → flVs ds = some ws → vs = ws ∧ ws.all flatV = true
  | [], _, _, r, h => by cases h; cases r; exact ⟨rfl, rfl⟩
  | d :: ds, _, _, r, h => by
    cases r with
    | cons r1 r2 =>
      simp only [flVs, Option.bind_eq_some_iff, Option.map_eq_some_iff] at h
      obtain ⟨v, h1, ws, h2, rfl⟩ := h
      obtain ⟨rfl, e1⟩ := flV_at r1 h1
      obtain ⟨rfl, e2⟩ := flVs_at r2 h2
      exact ⟨rfl, by rw [List.all_cons, e1, e2]; rfl⟩
def gInF (neg : Bool) : GF := fun d e μ => match flV d, (sqOf e μ).bind flVs with
  | some x, some xs => .val (.bl (if neg then !inV x xs else inV x xs)) μ
  | _, _ => .fail
theorem simO_in {neg : Bool} : SimO K W (rIn K neg) (gInF neg) := ⟨fun {H0 S0 ad0 tmp ρ μ σ H Q x y d e} R k => by
  obtain ⟨S, ad, c, r1, r2⟩ := R.two
  unfold gInF at k
  split at k
  · rename_i w ws h1 h2
    rw [Option.bind_eq_some_iff] at h2
    obtain ⟨es, h2, h3⟩ := h2
    obtain ⟨a, vs, rfl, q, rr⟩ := sqOf_at c r2 h2
    obtain ⟨rfl, e1⟩ := flV_at r1 h1
    obtain ⟨rfl, e2⟩ := flVs_at rr h3
    exact ⟨a, _, rfl, q, e1, e2, k _ _ (c.flat (flat_bl _))⟩
  · exact k.elim⟩
def one (x : Str) : Nat := x.cps.getD 0 0
def gInS (neg : Bool) : GF := fun d e μ => match d, e with
  | .str x, .str z => if x = ⟨#[one x]⟩ then .val (.bl (if neg then !decide (one x ∈ z.cps.toList) else decide (one x ∈ z.cps.toList))) μ else .fail
  | _, _ => .fail
theorem simO_inS : SimO K W (fun x y H Q => ∃ (c : Nat) (z : Str), x = .str ⟨#[c]⟩ ∧ y = .str z ∧ Q (.bl (decide (c ∈ z.cps.toList))) H) (gInS false) := ⟨fun {H0 S0 ad0 tmp ρ μ σ H Q x y d e} R k => by
  obtain ⟨S, ad, c, r1, r2⟩ := R.two
  unfold gInS at k
  split at k
  · cases r1; cases r2
    split at k
    · rename_i hx
      exact ⟨_, _, congrArg V.str hx, rfl, k _ _ (c.flat (flat_bl _))⟩
    · exact k.elim
  · exact k.elim⟩
theorem simO_notInS : SimO K W (fun x y H Q => ∃ (c : Nat) (z : Str), x = .str ⟨#[c]⟩ ∧ y = .str z ∧ Q (.bl (!decide (c ∈ z.cps.toList))) H) (gInS true) := ⟨fun {H0 S0 ad0 tmp ρ μ σ H Q x y d e} R k => by
  obtain ⟨S, ad, c, r1, r2⟩ := R.two
  unfold gInS at k
  split at k
  · cases r1; cases r2
    split at k
    · rename_i hx
      exact ⟨_, _, congrArg V.str hx, rfl, k _ _ (c.flat (flat_bl _))⟩
    · exact k.elim
  · exact k.elim⟩
def gIn : GF := orG (gInF false) (gInS false)
def gNotIn : GF := orG (gInF true) (gInS true)
theorem oc_in {X : Cx} : CmO X W .In gIn := ⟨_, op_in_seq.or op_in_sign, simO_in.or simO_inS⟩
theorem oc_notin {X : Cx} : CmO X W .NotIn gNotIn := ⟨_, op_notIn_seq.or op_notIn_sign, simO_in.or simO_notInS⟩
end
/-! ### methods of lists that are cells -/
@[simp] def tyMt (T : String) (d : D) (μ : Mu) : Bool := match d with
  | .str _ => T == "str"
  | .lst _ => T == "list"
  | .ref n => (match μ[n]? with
    | some (.lst _) => T == "list"
    | some (.dK _) => T == "dict"
    | some (.dT _) => T == "dict"
    | _ => false)
  | _ => false
abbrev MF := D → List D → Mu → Res D
structure SimM (K : PySem.W.Frag) (W : WX) (r : V → List V → Hp → VK → Prop) (g : MF) : Prop where
  run : ∀ {H0 S0 : Hp} {ad0 : Ad} {tmp : List (V × D)} {ρ : Ro} {μ : Mu} {σ : L2.St} {H : Hp} {Q : VK} {x : V} {d : D} {xs : List V} {ds : List D}, xs.length = ds.length → Rel K H0 S0 ad0 (xs.zip ds ++ (x, d) :: tmp) ρ μ σ H → PostE K W H0 S0 ad0 tmp ρ σ Q (g d ds μ) → r x xs H Q
def MtO (X : Cx) (W : WX) (id : String) (g : MF) : Prop := ∃ r, MtR X id r ∧ SimM X.K W r g
@[simp] def eBM (T : String) (g : MF) (o : EF) (a : AF) : EF := fun ρ μ => (o ρ μ).bind fun d μ1 => match tyMt T d μ1 with
  | true => (a ρ μ1).bind fun ds μ2 => g d ds μ2
  | false => .fail
section
variable {K : PySem.W.Frag} {W : WX} {H0 S0 : Hp} {ad0 : Ad} {S : Hp} {ad : Ad} {tmp : List (V × D)} {ρ : Ro} {μ : Mu} {σ : L2.St} {H : Hp} {x y v : V} {d e : D} {T : String}
theorem tyMt_at (c : Core K H0 S0 ad0 S ad tmp ρ μ σ H) (r : Rp K S ad v d) (h : tyMt T d μ = true) : tyV K T v H := by
  cases r <;> simp only [tyMt] at h <;> first | cases h | skip
  · exact eq_of_beq h
  · rename_i hs _; exact .inl ⟨eq_of_beq h, _, .of (c.sh _ _ hs)⟩
  · rename_i a n ha
    split at h
    · rename_i hm
      obtain ⟨_, h1, _⟩ := c.at_ n a _ ha hm
      exact .inl ⟨eq_of_beq h, _, .of h1⟩
    · rename_i hm
      obtain ⟨_, h1, _⟩ := c.at_ n a _ ha hm
      exact .inr (.inr (.inl ⟨eq_of_beq h, .inl ⟨_, h1⟩⟩))
    · rename_i hm
      obtain ⟨_, h1, _⟩ := c.at_ n a _ ha hm
      exact .inr (.inr (.inl ⟨eq_of_beq h, .inr ⟨_, h1⟩⟩))
    · cases h
theorem simE_bm {to : TE} {ta : TA} {fo : EF} {fa : AF} {r : V → List V → Hp → VK → Prop} {g : MF} (ho : SimE K W to fo) (ha : SimA K W ta fa) (hm : SimM K W r g) : SimE K W (tBM K T r to ta) (eBM T g fo fa) := ⟨fun {H0 S0 ad0 tmp ρ μ σ H Q} R k => by
  refine ho.run R ?_
  unfold eBM at k
  cases e1 : fo ρ μ with
  | fail => rw [e1] at k; exact k.elim
  | exc x μ1 => rw [e1] at k; exact k
  | val d μ1 =>
    rw [e1] at k
    simp only [bind_val] at k
    intro v H1 R1
    split at k
    · rename_i hty
      obtain ⟨S, ad, c, rv⟩ := R1.one
      refine ⟨tyMt_at c rv hty, ha.run R1 ?_⟩
      cases e2 : fa ρ μ1 with
      | fail => rw [e2] at k; exact k.elim
      | exc x μ1 => rw [e2] at k; exact fun cls dd H r => k cls dd H r.pop
      | val ds μ2 =>
        rw [e2] at k
        exact fun vs H2 hl R2 => hm.run hl R2 k
    · exact k.elim⟩
theorem simE_bm0 {to : TE} {fo : EF} {r : V → List V → Hp → VK → Prop} {g : MF} (ho : SimE K W to fo) (hm : SimM K W r g) : SimE K W (tBM0 K T r to) (eBM T g fo aNil) := ⟨fun {H0 S0 ad0 tmp ρ μ σ H Q} R k => by
  refine ho.run R ?_
  unfold eBM aNil at k
  cases e1 : fo ρ μ with
  | fail => rw [e1] at k; exact k.elim
  | exc x μ1 => rw [e1] at k; exact k
  | val d μ1 =>
    rw [e1] at k
    simp only [bind_val] at k
    intro v H1 R1
    split at k
    · rename_i hty
      obtain ⟨S, ad, c, rv⟩ := R1.one
      exact ⟨tyMt_at c rv hty, hm.run (xs := []) (ds := []) rfl R1 k⟩
    · exact k.elim⟩
theorem Rel.margs {xs : List V} {ds : List D} (hl : xs.length = ds.length) (r : Rel K H0 S0 ad0 (xs.zip ds ++ (x, d) :: tmp) ρ μ σ H) : ∃ S ad, Core K H0 S0 ad0 S ad tmp ρ μ σ H ∧ Rp K S ad x d ∧ RpL K S ad xs ds := by
  obtain ⟨S, ad, c, h⟩ := r.args hl
  exact ⟨S, ad, c.pop, c.hd, h⟩
@[simp] def gAppend : MF := fun d ds μ => match d, ds with
  | .ref n, [y] => (match μ[n]? with
    | some (.lst xs) => if xs.length < 100000 then .val .non (μ.set n (.lst (xs ++ [y]))) else .fail
    | _ => .fail)
  | _, _ => .fail
theorem wrLst {n : Nat} {a : Addr} {xs ys : List D} {ws : List V} (c : Core K H0 S0 ad0 S ad tmp ρ μ σ H) (ha : ad[n]? = some a) (r : RpL K S ad ws ys) : Core K H0 S0 ad0 S ad tmp ρ (μ.set n (.lst ys)) σ (upd H a (.lst ws)) :=
  c.wr ha ⟨ws, upd_same, r⟩
theorem mo_append {X : Cx} : MtO X W "list.append" gAppend := ⟨_, mt_append, ⟨fun {H0 S0 ad0 tmp ρ μ σ H Q x d xs ds} hl R k => by
  obtain ⟨S, ad, c, rx, ra⟩ := R.margs hl
  unfold gAppend at k
  split at k
  · rename_i n y
    obtain ⟨w, rfl, ry⟩ := rpL1 ra
    split at k
    · rename_i zs hm
      split at k
      · rename_i hz
        cases rx with
        | ref ha =>
          rename_i a
          obtain ⟨vs, h1, h2⟩ := c.at_ n a _ ha hm
          exact ⟨a, vs, w, rfl, rfl, h1, sz_lt (by rw [h2.length]; exact hz), k _ _ ((wrLst (xs := zs) c ha (h2.append (.cons ry .nil))).flat flat_non)⟩
      · exact k.elim
    · exact k.elim
  · exact k.elim⟩⟩
@[simp] def gPop : MF := fun d ds μ => match d, ds with
  | .ref n, [] => (match μ[n]? with
    | some (.lst xs) => (match xs[xs.length - 1]? with
      | some y => .val y (μ.set n (.lst xs.dropLast))
      | none => .fail)
    | _ => .fail)
  | _, _ => .fail
theorem mo_pop {X : Cx} : MtO X W "list.pop" gPop := ⟨_, mt_pop, ⟨fun {H0 S0 ad0 tmp ρ μ σ H Q x d xs ds} hl R k => by
  obtain ⟨S, ad, c, rx, ra⟩ := R.margs hl
  unfold gPop at k
  split at k
  · rename_i n
    cases ra
    split at k
    · rename_i zs hm
      split at k
      · rename_i y hy
        cases rx with
        | ref ha =>
          rename_i a
          obtain ⟨vs, h1, h2⟩ := c.at_ n a _ ha hm
          obtain ⟨v, g1, g2⟩ := h2.get hy
          exact ⟨a, vs, v, rfl, rfl, h1, by rw [h2.length]; exact g1, k _ _ ⟨S, ad, (wrLst (xs := zs) c ha h2.dropLast).push g2⟩⟩
      · exact k.elim
    · exact k.elim
  · exact k.elim⟩⟩
@[simp] def gPopAt : MF := fun d ds μ => match d, ds with
  | .ref n, [.int i] => (match μ[n]? with
    | some (.lst xs) => if 0 ≤ i ∧ i < 100000 then (match xs[i.toNat]? with
      | some y => .val y (μ.set n (.lst (xs.eraseIdx i.toNat)))
      | none => .fail) else .fail
    | _ => .fail)
  | _, _ => .fail
theorem mo_popAt {X : Cx} : MtO X W "list.pop" gPopAt := ⟨_, mt_popAt, ⟨fun {H0 S0 ad0 tmp ρ μ σ H Q x d xs ds} hl R k => by
  obtain ⟨S, ad, c, rx, ra⟩ := R.margs hl
  unfold gPopAt at k
  split at k
  · rename_i n i
    obtain ⟨w, rfl, ry⟩ := rpL1 ra
    cases ry
    split at k
    · rename_i zs hm
      split at k
      · rename_i hi
        split at k
        · rename_i y hy
          cases rx with
          | ref ha =>
            rename_i a
            obtain ⟨vs, h1, h2⟩ := c.at_ n a _ ha hm
            obtain ⟨v, g1, g2⟩ := h2.get hy
            have hlt : i.toNat < vs.length := (List.getElem?_eq_some_iff.mp g1).1
            refine ⟨a, vs, i, i.toNat, v, rfl, rfl, h1, by omega, by omega, ?_, g1, k _ _ ⟨S, ad, (wrLst (xs := zs) c ha (h2.erase i.toNat)).push g2⟩⟩
            have := (ixN_seq (n := vs.length) (i := i) (j := i.toNat) (by unfold ixN; rw [if_pos hi.1, if_pos (by omega)])).1
            exact this
        · exact k.elim
      · exact k.elim
    · exact k.elim
  · exact k.elim⟩⟩
end
section
variable {X : Cx} {W : WX} {o e : Expr} {es : List Expr} {fo : EF} {fa : AF} {name : Str} {apos cpos : Pos} {T id : String} {g : MF}
theorem de_bm0 (pa : PlainAttrs T) (slot : Slot T name id) (hty : typeOf (.builtin id) = pure (.type "method_descriptor")) (hm : MtO X W id g) (ho : DE X W o fo)
    (hbase : attributeBase o name X.env (eval o X.env) = eval o X.env := by rfl) (hline : (apos.endLine == cpos.line) = true := by rfl) : DE X W (.Call (.Attribute o name apos) [] [] cpos) (eBM T g fo aNil) :=
  let ⟨_, h1, h2⟩ := hm; let ⟨_, p1, q1⟩ := ho; ⟨_, pe_bm0 pa slot hty h1 p1 hbase hline, simE_bm0 q1 h2⟩
theorem de_bm (pa : PlainAttrs T) (slot : Slot T name id) (hty : typeOf (.builtin id) = pure (.type "method_descriptor")) (hm : MtO X W id g) (ho : DE X W o fo) (ha : DA X W (e :: es) fa)
    (hbase : attributeBase o name X.env (eval o X.env) = eval o X.env := by rfl)
    (hfew : ((backTo cpos (starEach (e :: es) X.env)).all (fun x => !x.1) && (backToKw cpos (keywordEach [] X.env)).all (fun x => x.1.isSome)
      && decide ((e :: es).length + ([] : List Keyword).length + (if ([] : List Keyword).isEmpty then 0 else 1) < 30)) = true := by rfl)
    (hline : (apos.endLine == cpos.line) = true := by rfl) (hs : starEach (e :: es) X.env = (false, eval e X.env) :: starEach es X.env := by rfl) (hplain : (backTo cpos (starEach es X.env)).any (·.1) = false := by rfl) :
    DE X W (.Call (.Attribute o name apos) (e :: es) [] cpos) (eBM T g fo fa) :=
  let ⟨_, h1, h2⟩ := hm; let ⟨_, p1, q1⟩ := ho; let ⟨_, p2, q2⟩ := ha; ⟨_, pe_bm pa slot hty h1 p1 p2 hbase hfew hline hs hplain, simE_bm q1 q2 h2⟩
end
/-! ### statements' rules -/
def DG (X : Cx) (tg : Expr) (g : GT) : Prop := ∃ t, PG X tg t ∧ SimG X.K t g
def DGs (X : Cx) (ts : List Expr) (g : GTs) : Prop := ∃ t, PGs X ts t ∧ SimGs X.K t g
def DI (X : Cx) (W : WX) (tg iter : Expr) (f : AF) : Prop := ∃ wi, PI X tg iter wi ∧ SimI X.K W wi f
section
variable {X : Cx} {W : WX} {a b e o tg iter c : Expr} {es : List Expr} {sts body els : List Stmt} {st : Stmt} {f fe : EF} {ft : TF} {fi : AF} {g : GT} {gs : GTs} {s u : SF} {pos pos' p : Pos} {x : Str} {i : Nat}
theorem dss_nil : DSs X W [] sNext := ⟨_, pss_nil, simS_next⟩
theorem dss_cons (h1 : DS X W st s) (h2 : DSs X W sts u) : DSs X W (st :: sts) (sSeq s u) := let ⟨_, p1, q1⟩ := h1; let ⟨_, p2, q2⟩ := h2; ⟨_, pss_cons p1 p2, simS_seq q1 q2⟩
theorem dss_one (h1 : DS X W st s) : DSs X W [st] s := let ⟨_, p1, q1⟩ := h1; ⟨_, pss_one p1, q1⟩
theorem ds_set (i : Nat) {x : Str} {e : Expr} {pos' pos : Pos} (hN : X.N.Nodup) (he : DE X W e fe) (hi : X.N[i]? = some x := by rfl) (hx : Loc X.env.scope x := by first | exact Or.inl rfl | exact Or.inr rfl)
    (hs : swapsWith e (some (.Name x pos')) pos.line X.env = pure false := by rfl) (hf : X.fn x = true ∨ X.env.scope.names.lookup x = some .local := by first | exact .inl rfl | exact .inr rfl | assumption) :
    DS X W (.Assign [.Name x pos'] e pos) (sAsg i fe) := let ⟨_, p1, q1⟩ := he; ⟨_, ps_set hN hi hx p1 hs hf, simS_asg q1 (simG_n i)⟩
theorem ds_asg (he : DE X W e fe) (hg : DG X tg g) (hs : swapsWithSole [tg] e pos.line X.env = pure false := by rfl) (hw : swappedStores [tg] e X.env = pure none := by rfl) (h1 : (assignEach [tg] X.env).map (·.2) = [assign tg X.env] := by rfl) : DS X W (.Assign [tg] e pos) (sAsgG fe g) :=
  let ⟨_, p1, q1⟩ := he; let ⟨_, p2, q2⟩ := hg; ⟨_, ps_asg p1 p2 hs hw h1, simS_asg q1 q2⟩
theorem dg_n (i : Nat) {x : Str} {pos : Pos} (hN : X.N.Nodup) (hi : X.N[i]? = some x := by rfl) (hx : Loc X.env.scope x := by first | exact Or.inl rfl | exact Or.inr rfl) (hf : X.fn x = true ∨ X.env.scope.names.lookup x = some .local := by first | exact .inl rfl | exact .inr rfl | assumption) :
    DG X (.Name x pos) (gN i) := ⟨_, pg_name hN hi hx hf, simG_n i⟩
theorem dgs_nil : DGs X [] gN0 := ⟨_, pgs_nil, simGs_nil⟩
theorem dgs_cons (h1 : DG X e g) (h2 : DGs X es gs) (hs : (assignEach (e :: es) X.env).map (·.2) = assign e X.env :: (assignEach es X.env).map (·.2) := by rfl) : DGs X (e :: es) (gC g gs) := let ⟨_, p1, q1⟩ := h1; let ⟨_, p2, q2⟩ := h2; ⟨_, pgs_cons p1 p2 hs, simGs_cons q1 q2⟩
theorem dg_tup {k : Nat} (n : Nat) (hc : X.calm = true) (h : DGs X es gs) (hn : (assignEach es X.env).length = n := by rfl) (hst : (assignEach es X.env).findIdx? (·.1) = none := by rfl) : DG X (.Tuple es k pos) (gTp n gs) := by
  obtain ⟨_, p1, q1⟩ := h
  exact ⟨_, pg_tup hc p1 hn hst, simG_tup q1⟩
theorem ds_expr (he : DE X W e fe) (hs : swapsWith e none pos.line X.env = pure false := by rfl) : DS X W (.Expr e pos) (sDrop fe) := let ⟨_, p1, q1⟩ := he; ⟨_, ps_expr p1 hs, simS_drop q1⟩
theorem ds_ret (he : DE X W e fe) : DS X W (.Return (some e) pos) (sRet fe) := let ⟨_, p1, q1⟩ := he; ⟨_, ps_ret p1, simS_ret q1⟩
theorem ds_retN : DS X W (.Return none pos) sRetN := ⟨_, ps_retN, simS_retN⟩
theorem ds_break : DS X W (.Break pos) sBreak := ⟨_, ps_break, simS_break⟩
theorem ds_cont : DS X W (.Continue pos) sCont := ⟨_, ps_continue, simS_cont⟩
theorem ds_if (ht : DT X W c ft) (ha : DSs X W body s) (hb : DSs X W els u) : DS X W (.If c body els pos) (sIf ft s u) := let ⟨_, p0, q0⟩ := ht; let ⟨_, p1, q1⟩ := ha; let ⟨_, p2, q2⟩ := hb; ⟨_, ps_if p0 p1 p2, simS_if q0 q1 q2⟩
theorem ds_while (N : Nat) (hp : PassesOwn (model X.prog X.w) X.A X.env X.xe) (ht : DT X W c ft) (hb : DSs X W body s) : DS X W (.While c body [] pos) (sWhile N ft s) := let ⟨_, p0, q0⟩ := ht; let ⟨_, p1, q1⟩ := hb; ⟨_, ps_while hp p0 p1, simS_while N q0 q1⟩
theorem ds_for (hp : PassesOwn (model X.prog X.w) X.A X.env X.xe) (hc : X.calm = true) (hi : DI X W tg iter fi) (hg : DG X tg g) (hb : DSs X W body s) (hs : ∀ x, foldedSetIterable iter X.env x = pure x := by intro _; rfl) : DS X W (.For tg iter body [] pos) (sFor fi g s) :=
  let ⟨_, p0, q0⟩ := hi; let ⟨_, p1, q1⟩ := hg; let ⟨_, p2, q2⟩ := hb; ⟨_, ps_for hp hc p0 p1 p2 hs, simS_for q0 q1 q2⟩
/-- x += e, ints -/
theorem sim_ipI {K : PySem.W.Frag} {W : WX} {h : Int → Int → Int} : SimO K W (ipI h) (gI fun i j => .int (h i j)) := ⟨fun {H0 S0 ad0 tmp ρ μ σ H Q x y d e} R k => by
  obtain ⟨S, ad, c, r1, r2⟩ := R.two
  unfold gI at k
  split at k
  · rename_i i j
    cases r1; cases r2
    exact ⟨i, j, rfl, rfl, k _ _ (c.flat (flat_int _))⟩
  · exact k.elim⟩
theorem ds_augAdd (i : Nat) {x : Str} {e : Expr} {pos' pos : Pos} (hN : X.N.Nodup) (he : DE X W e fe) (hi : X.N[i]? = some x := by rfl) (hx : Loc X.env.scope x := by first | exact Or.inl rfl | exact Or.inr rfl) (hf : X.fn x = true ∨ X.env.scope.names.lookup x = some .local := by first | exact .inl rfl | exact .inr rfl | assumption) :
    DS X W (.AugAssign (.Name x pos') .Add e pos) (sAug i fe (gI fun i j => .int (i + j))) := let ⟨_, p1, q1⟩ := he; ⟨_, ps_aug hN hi hx p1 ip_add hf, simS_aug q1 sim_ipI⟩
/-- range(n), range(a, b) -/
@[simp] def iRange1 (a : AF) : AF := fun ρ μ => (a ρ μ).bind fun ds μ1 => match ds with
  | [.int n] => if Rng n then .val ((List.range n.toNat).map fun i : Nat => D.int (0 + (i : Int))) μ1 else .fail
  | _ => .fail
@[simp] def iRange2 (a : AF) : AF := fun ρ μ => (a ρ μ).bind fun ds μ1 => match ds with
  | [.int m, .int n] => if Rng m ∧ Rng n then .val ((List.range (n - m).toNat).map fun i : Nat => D.int (m + (i : Int))) μ1 else .fail
  | _ => .fail
theorem jw_range {K : PySem.W.Frag} (lo : Int) (n : Nat) : JW K (Itr lo n) ((List.range n).map fun i : Nat => D.int (lo + (i : Int))) [] := fun {H0 S0 ad0 tmp ρ μ σ H} R i => by
  refine ⟨fun d hd => ?_, fun hi => by rw [List.length_map, List.length_range] at hi; exact hi⟩
  rw [List.getElem?_map] at hd
  cases e : (List.range n)[i]? with
  | none => rw [e] at hd; cases hd
  | some j =>
    rw [e] at hd
    cases hd
    obtain ⟨h1, h2⟩ := List.getElem?_eq_some_iff.mp e
    rw [List.getElem_range] at h2
    subst h2
    rw [List.length_range] at h1
    refine ⟨h1, fun x H' y => ?_⟩
    obtain ⟨rfl, rfl⟩ := y
    exact R.flat (flat_int _)
theorem di_range1 {ta : AF} (hg : Gl X "range") (hm : X.mg "range" = none) (ha : DA X W [a] ta) (hs : starEach [a] X.env = [(false, eval a X.env)] := by rfl) : DI X W tg (.Call (.Name "range" p) [a] [] pos) (iRange1 ta) := by
  obtain ⟨t, p1, q1⟩ := ha
  refine ⟨_, pi_range1 hg hm p1 hs, ⟨fun {H0 S0 ad0 tmp ρ μ σ H R} r k => ?_⟩⟩
  refine q1.run r ?_
  unfold iRange1 at k
  cases e1 : ta ρ μ with
  | fail => rw [e1] at k; exact k.elim
  | exc x μ1 => rw [e1] at k; exact k
  | val ds μ1 =>
    rw [e1] at k
    simp only [bind_val] at k
    intro vs H1 hl R1
    split at k
    · rename_i n
      split at k
      · rename_i hn
        obtain ⟨S, ad, c, ra⟩ := R1.args hl
        obtain ⟨v, rfl, rv⟩ := rpL1 ra
        cases rv
        exact ⟨n, rfl, hn.lo, hn.hi, k _ [] _ ⟨S, ad, c⟩ (jw_range 0 n.toNat)⟩
      · exact k.elim
    · exact k.elim
theorem di_range2 {ta : AF} (hg : Gl X "range") (hm : X.mg "range" = none) (ha : DA X W [a, b] ta) (hs : starEach [a, b] X.env = [(false, eval a X.env), (false, eval b X.env)] := by rfl) (hs2 : starEach [b] X.env = [(false, eval b X.env)] := by rfl) : DI X W tg (.Call (.Name "range" p) [a, b] [] pos) (iRange2 ta) := by
  obtain ⟨t, p1, q1⟩ := ha
  refine ⟨_, pi_range2 hg hm p1 hs hs2, ⟨fun {H0 S0 ad0 tmp ρ μ σ H R} r k => ?_⟩⟩
  refine q1.run r ?_
  unfold iRange2 at k
  cases e1 : ta ρ μ with
  | fail => rw [e1] at k; exact k.elim
  | exc x μ1 => rw [e1] at k; exact k
  | val ds μ1 =>
    rw [e1] at k
    simp only [bind_val] at k
    intro vs H1 hl R1
    split at k
    · rename_i m n
      split at k
      · rename_i hn
        obtain ⟨S, ad, c, ra⟩ := R1.args hl
        obtain ⟨v, w, rfl, rv, rw⟩ := rpL2 ra
        cases rv; cases rw
        exact ⟨m, n, rfl, ⟨hn.1.lo, hn.1.hi, hn.2.lo, hn.2.hi⟩, k _ [] _ ⟨S, ad, c⟩ (jw_range m (n - m).toNat)⟩
      · exact k.elim
    · exact k.elim
/-- a list that stands still, a tuple -/
@[simp] def iSeq (f : EF) : AF := fun ρ μ => (f ρ μ).bind fun d μ1 => match d with
  | .lst xs => .val xs μ1
  | .scr ns => .val (mapD D.int ns) μ1
  | _ => .fail
@[simp] def iTupl (f : EF) : AF := fun ρ μ => (f ρ μ).bind fun d μ1 => match d with
  | .tup xs => .val xs μ1
  | _ => .fail
theorem jw_list {K : PySem.W.Frag} {a : Addr} {xs : List D} : JW K (Itl K a) xs [(.ref a, .lst xs)] := fun {H0 S0 ad0 tmp ρ μ σ H} R i => by
  obtain ⟨S, ad, c⟩ := id R
  have r : Rp K S ad (.ref a) (.lst xs) := c.hd
  cases r with
  | lst hs rr =>
    rename_i vs
    refine ⟨fun d hd => ?_, fun hi => ⟨vs, .of (c.sh _ _ hs), by rw [rr.length]; exact hi⟩⟩
    obtain ⟨v, h1, h2⟩ := rr.get hd
    refine ⟨⟨vs, v, .of (c.sh _ _ hs), h1⟩, fun x H' y => ?_⟩
    obtain ⟨rfl, y⟩ := y
    have e := y vs (.of (c.sh _ _ hs))
    rw [h1] at e
    cases e
    exact ⟨S, ad, c.push h2⟩
theorem jw_scr {K : PySem.W.Frag} {a : Addr} {ns : List Int} : JW K (Itl K a) (mapD D.int ns) [(.ref a, .scr ns)] := fun {H0 S0 ad0 tmp ρ μ σ H} R i => by
  obtain ⟨S, ad, c⟩ := id R
  have r : Rp K S ad (.ref a) (.scr ns) := c.hd
  cases r with
  | scr hs =>
    have hs := c.sh.seq hs
    refine ⟨fun d hd => ?_, fun hi => ⟨_, hs, by unfold mapD at hi; rw [List.length_map] at hi ⊢; exact hi⟩⟩
    obtain ⟨v, h1, h2⟩ := (RpL.of_ints (K := K) (S := S) (ad := ad) ns).get hd
    refine ⟨⟨_, v, hs, h1⟩, fun x H' y => ?_⟩
    obtain ⟨rfl, y⟩ := y
    have e := y _ hs
    rw [h1] at e
    cases e
    exact ⟨S, ad, c.push h2⟩
theorem jw_tup {K : PySem.W.Frag} {a : Addr} {xs : List D} : JW K (Itt K a) xs [(.ref a, .tup xs)] := fun {H0 S0 ad0 tmp ρ μ σ H} R i => by
  obtain ⟨S, ad, c⟩ := id R
  have r : Rp K S ad (.ref a) (.tup xs) := c.hd
  cases r with
  | tup hs rr =>
    rename_i vs
    refine ⟨fun d hd => ?_, fun hi => ⟨vs, .of (c.sh _ _ hs), by rw [rr.length]; exact hi⟩⟩
    obtain ⟨v, h1, h2⟩ := rr.get hd
    refine ⟨⟨vs, v, .of (c.sh _ _ hs), h1⟩, fun x H' y => ?_⟩
    obtain ⟨rfl, y⟩ := y
    have e := y vs (.of (c.sh _ _ hs))
    rw [h1] at e
    cases e
    exact ⟨S, ad, c.push h2⟩
theorem di_list (he : DE X W iter fe) : DI X W tg iter (iSeq fe) := by
  obtain ⟨t, p1, q1⟩ := he
  refine ⟨_, pi_list p1, ⟨fun {H0 S0 ad0 tmp ρ μ σ H R} r k => ?_⟩⟩
  refine q1.run r ?_
  unfold iSeq at k
  cases e1 : fe ρ μ with
  | fail => rw [e1] at k; exact k.elim
  | exc x μ1 => rw [e1] at k; exact k
  | val d μ1 =>
    rw [e1] at k
    simp only [bind_val] at k
    intro v H1 R1
    split at k
    · rename_i xs
      obtain ⟨S, ad, c, rv⟩ := R1.one
      cases rv with
      | lst hs rr =>
        rename_i a vs
        exact ⟨a, rfl, ⟨vs, .of (c.sh _ _ hs)⟩, k _ [(.ref a, .lst xs)] _ R1 jw_list⟩
    · rename_i ns
      obtain ⟨S, ad, c, rv⟩ := R1.one
      cases rv with
      | scr hs =>
        rename_i a
        exact ⟨a, rfl, ⟨_, c.sh.seq hs⟩, k _ [(.ref a, .scr ns)] _ R1 jw_scr⟩
    · exact k.elim
theorem di_tup (he : DE X W iter fe) : DI X W tg iter (iTupl fe) := by
  obtain ⟨t, p1, q1⟩ := he
  refine ⟨_, pi_tup p1, ⟨fun {H0 S0 ad0 tmp ρ μ σ H R} r k => ?_⟩⟩
  refine q1.run r ?_
  unfold iTupl at k
  cases e1 : fe ρ μ with
  | fail => rw [e1] at k; exact k.elim
  | exc x μ1 => rw [e1] at k; exact k
  | val d μ1 =>
    rw [e1] at k
    simp only [bind_val] at k
    intro v H1 R1
    split at k
    · rename_i xs
      obtain ⟨S, ad, c, rv⟩ := R1.one
      cases rv with
      | tup hs rr =>
        rename_i a vs
        exact ⟨a, rfl, ⟨vs, .of (c.sh _ _ hs)⟩, k _ [(.ref a, .tup xs)] _ R1 jw_tup⟩
    · exact k.elim
/-- a list, the script, a tuple, a text sign by sign -/
@[simp] def iAny (f : EF) : AF := fun ρ μ => (f ρ μ).bind fun d μ1 => match d with
  | .lst xs => .val xs μ1
  | .scr ns => .val (mapD D.int ns) μ1
  | .tup xs => .val xs μ1
  | _ => .fail
theorem pi_or {X : Cx} {tg l : Expr} {w1 w2 : TI} (h1 : PI X tg l w1) (h2 : PI X tg l w2) : PI X tg l (fun σ H R => w1 σ H R ∨ w2 σ H R) := ⟨fun pins s σ H R I h => by
  rcases h with h | h
  · exact h1.run pins s σ H R I h
  · exact h2.run pins s σ H R I h⟩
theorem di_any (he : DE X W iter fe) : DI X W tg iter (iAny fe) := by
  obtain ⟨t, p1, q1⟩ := he
  refine ⟨_, pi_or (pi_list p1) (pi_tup p1), ⟨fun {H0 S0 ad0 tmp ρ μ σ H R} r k => ?_⟩⟩
  unfold iAny at k
  cases e1 : fe ρ μ with
  | fail => rw [e1] at k; exact k.elim
  | exc x μ1 => rw [e1] at k; exact .inl (q1.run r (by rw [e1]; exact k))
  | val d μ1 =>
    rw [e1] at k
    simp only [bind_val] at k
    split at k
    · rename_i xs
      refine .inl (q1.run r ?_)
      rw [e1]
      intro v H1 R1
      obtain ⟨S, ad, c, rv⟩ := R1.one
      cases rv with
      | lst hs rr =>
        rename_i a vs
        exact ⟨a, rfl, ⟨vs, .of (c.sh _ _ hs)⟩, k _ [(.ref a, .lst xs)] _ R1 jw_list⟩
    · rename_i ns
      refine .inl (q1.run r ?_)
      rw [e1]
      intro v H1 R1
      obtain ⟨S, ad, c, rv⟩ := R1.one
      cases rv with
      | scr hs =>
        rename_i a
        exact ⟨a, rfl, ⟨_, c.sh.seq hs⟩, k _ [(.ref a, .scr ns)] _ R1 jw_scr⟩
    · rename_i xs
      refine .inr (q1.run r ?_)
      rw [e1]
      intro v H1 R1
      obtain ⟨S, ad, c, rv⟩ := R1.one
      cases rv with
      | tup hs rr =>
        rename_i a vs
        exact ⟨a, rfl, ⟨vs, .of (c.sh _ _ hs)⟩, k _ [(.ref a, .tup xs)] _ R1 jw_tup⟩
    · exact k.elim
end
end
end Dn

/-! Dn5: comprehensions, stores into lists, defs and their calls. -/
namespace Dn
open PySem PySem.Spec PyProof.Rows L2

/-! ### the canonical reading: one for all contexts -/
def canE (K : PySem.W.Frag) (W : WX) (f : EF) : TE := fun σ H Q => ∃ (H0 S0 : Hp) (ad0 : Ad) (tmp : List (V × D)) (ρ : Ro) (μ : Mu), Rel K H0 S0 ad0 tmp ρ μ σ H ∧ PostE K W H0 S0 ad0 tmp ρ σ Q (f ρ μ)
def canT (K : PySem.W.Frag) (W : WX) (f : TF) : TT := fun σ H Q => ∃ (H0 S0 : Hp) (ad0 : Ad) (tmp : List (V × D)) (ρ : Ro) (μ : Mu), Rel K H0 S0 ad0 tmp ρ μ σ H ∧ PostT K W H0 S0 ad0 tmp ρ σ Q (f ρ μ)
theorem simE_can {K : PySem.W.Frag} {W : WX} {f : EF} : SimE K W (canE K W f) f := ⟨fun R h => ⟨_, _, _, _, _, _, R, h⟩⟩
theorem simT_can {K : PySem.W.Frag} {W : WX} {f : TF} : SimT K W (canT K W f) f := ⟨fun R h => ⟨_, _, _, _, _, _, R, h⟩⟩
section
variable {X : Cx} {W : WX} {e c : Expr} {f : EF} {ft : TF}
theorem DE.can (h : DE X W e f) : PE X e (canE X.K W f) := by
  obtain ⟨t, p, q⟩ := h
  exact ⟨fun pins s σ H Q I ⟨_, _, _, _, _, _, R, k⟩ => p.run pins s σ H Q I (q.run R k)⟩
theorem DT.can (h : DT X W e ft) : PT X e (canT X.K W ft) := by
  obtain ⟨t, p, q⟩ := h
  exact ⟨fun pins s σ H Q I ⟨_, _, _, _, _, _, R, k⟩ => p.run pins s σ H Q I (q.run R k)⟩
def DTs (X : Cx) (W : WX) (ifs : List Expr) (f : TF) : Prop := ∃ t, PTs X ifs t ∧ SimT X.K W t f
@[simp] def tfYes : TF := fun _ μ => .val true μ
theorem dts_nil : DTs X W [] tfYes := ⟨_, pts_nil, ⟨fun R h => h _ R⟩⟩
theorem dts_one (h : DT X W c ft) : DTs X W [c] ft := let ⟨_, p, q⟩ := h; ⟨_, pts_one p, q⟩
theorem DTs.can {ifs : List Expr} (h : DTs X W ifs ft) : PTs X ifs (canT X.K W ft) := by
  obtain ⟨t, p, q⟩ := h
  exact ⟨fun pins s σ H Q I ⟨_, _, _, _, _, _, R, k⟩ => p.run pins s σ H Q I (q.run R k)⟩
end
/-! ### comprehensions -/
@[simp] def wipeR (ρ : Ro) : List Nat → Ro
  | [] => ρ
  | v :: vs => (wipeR ρ vs).set v none
theorem wipe_set {σ : L2.St} {i : Nat} {x : Option V} : ∀ {vs : List Nat}, i ∈ vs → wipe (σ.set i x) vs = wipe σ vs
  | [], h => by simp at h
  | v :: vs, h => by
    show (wipe (σ.set i x) vs).set v none = (wipe σ vs).set v none
    by_cases hi : i ∈ vs
    · rw [wipe_set hi]
    · have e : i = v := by
        rcases List.mem_cons.mp h with h | h
        · exact h
        · exact absurd h hi
      subst e
      have : ∀ ws : List Nat, i ∉ ws → wipe (σ.set i x) ws = (wipe σ ws).set i x := by
        intro ws
        induction ws with
        | nil => intro _; rfl
        | cons w ws ih =>
          intro hn
          show (wipe (σ.set i x) ws).set w none = ((wipe σ ws).set w none).set i x
          rw [ih (fun m => hn (List.mem_cons_of_mem _ m)), List.set_comm _ _ (fun z => hn (by rw [z]; exact List.mem_cons_self))]
      rw [this vs hi, List.set_set]
theorem wipe_mem_none {σ : L2.St} : ∀ {vs : List Nat} {i : Nat}, i ∈ vs → (wipe σ vs).set i none = wipe σ vs
  | [], _, h => by simp at h
  | v :: vs, i, h => by
    show ((wipe σ vs).set v none).set i none = (wipe σ vs).set v none
    by_cases e : i = v
    · subst e; rw [List.set_set]
    · have hi : i ∈ vs := by
        rcases List.mem_cons.mp h with h | h
        · exact absurd h e
        · exact h
      rw [List.set_comm _ _ (fun z => e z.symm), wipe_mem_none hi]
theorem wipe_wipe {σ : L2.St} (vs : List Nat) : wipe (wipe σ vs) vs = wipe σ vs := by
  have : ∀ ws : List Nat, (∀ i ∈ ws, i ∈ vs) → wipe (wipe σ vs) ws = wipe σ vs := by
    intro ws
    induction ws with
    | nil => intro _; rfl
    | cons w ws ih =>
      intro h
      show (wipe (wipe σ vs) ws).set w none = wipe σ vs
      rw [ih fun i m => h i (List.mem_cons_of_mem _ m), wipe_mem_none (h w List.mem_cons_self)]
  exact this vs fun _ m => m
section
variable {K : PySem.W.Frag} {W : WX} {H0 S0 : Hp} {ad0 : Ad} {S : Hp} {ad : Ad} {tmp : List (V × D)} {ρ : Ro} {μ : Mu} {σ : L2.St} {H : Hp}
theorem Core.wipe (c : Core K H0 S0 ad0 S ad tmp ρ μ σ H) : ∀ vs : List Nat, Core K H0 S0 ad0 S ad tmp (wipeR ρ vs) μ (L2.wipe σ vs) H
  | [] => c
  | v :: vs => (Core.wipe c vs).unset v
/-- a thing that is nobody's changes -/
theorem Core.free {p : Addr} {o : HO} (c : Core K H0 S0 ad0 S ad tmp ρ μ σ H) (h1 : p ∉ ad) (h2 : S p = none) (h3 : H0 p = none) : Core K H0 S0 ad0 S ad tmp ρ μ σ (upd H p o) := by
  refine { c with kp := fun b u e n => ?_, sh := fun b u e => ?_, at_ := fun n a x e1 e2 => ?_ }
  · rw [upd_ne (ne_of_none e h3)]; exact c.kp b u e n
  · rw [upd_ne (ne_of_none e h2)]; exact c.sh b u e
  · have hne : a ≠ p := fun z => h1 (by rw [← z]; exact List.mem_of_getElem? e1)
    exact (c.at_ n a x e1 e2).mono (Same.refl S) adp_refl fun o e => by rw [upd_ne hne]; exact e
/-- it is done: from now on it stays -/
theorem Core.adopt {p : Addr} {o : HO} (c : Core K H0 S0 ad0 S ad tmp ρ μ σ H) (h0 : H p = some o) (h1 : p ∉ ad) (h2 : S p = none) (h3 : H0 p = none) : Core K H0 S0 ad0 (upd S p o) ad tmp ρ μ σ H := by
  have e : Same S (upd S p o) := same_new h2
  refine { c with s0 := fun b u e1 => e b u (c.s0 b u e1), sn := fun b u e1 => ?_, sh := fun b u e1 => ?_, as := fun a m => ?_, at_ := fun n a x e1 e2 => (c.at_ n a x e1 e2).mono e adp_refl fun _ z => z, sl := fun i d hd => ?_, tm := fun q m => (c.tm q m).mono e adp_refl }
  · by_cases hb : b = p
    · subst hb; exact .inr (.inl h3)
    · rw [upd_ne hb] at e1; exact c.sn b u e1
  · by_cases hb : b = p
    · subst hb; rw [upd_same] at e1; rw [h0]; exact e1
    · rw [upd_ne hb] at e1; exact c.sh b u e1
  · rw [upd_ne (fun z => h1 (by rw [← z]; exact m))]; exact c.as a m
  · obtain ⟨v, g1, g2⟩ := c.sl i d hd
    exact ⟨v, g1, g2.mono e adp_refl⟩
theorem Core.adoptCell {p : Addr} {x : Nd} (c : Core K H0 S0 ad0 S ad tmp ρ μ σ H) (hx : NdAt K S ad H p x) (h1 : p ∉ ad) (h2 : S p = none) (h3 : H0 p = none) : Core K H0 S0 ad0 S (ad ++ [p]) tmp ρ (μ ++ [x]) σ H := by
  refine ⟨fun b u e1 e2 => c.kp b u e1 fun m => e2 (List.mem_append_left _ m), c.s0, c.sn, c.sh, ?_, fun a m => ?_, ?_, ?_, fun n a y g1 g2 => ?_, c.ln, fun i d hd => ?_, fun q m => (c.tm q m).mono (Same.refl S) adp_more⟩
  · obtain ⟨more, e, k⟩ := c.a0
    refine ⟨more ++ [p], by rw [e, List.append_assoc], fun a m => ?_⟩
    rcases List.mem_append.mp m with m | m
    · exact k a m
    · cases List.mem_singleton.mp m; exact h3
  · rcases List.mem_append.mp m with m | m
    · exact c.as a m
    · cases List.mem_singleton.mp m; exact h2
  · exact List.nodup_append.mpr ⟨c.nd, by simp, fun a m b m' => by cases List.mem_singleton.mp m'; exact fun z => h1 (by rw [← z]; exact m)⟩
  · rw [List.length_append, List.length_append, c.al] <;> rfl
  · by_cases hn : n < ad.length
    · rw [List.getElem?_append_left hn] at g1
      rw [List.getElem?_append_left (by rw [← c.al]; exact hn)] at g2
      exact (c.at_ n a y g1 g2).mono (Same.refl S) adp_more fun _ z => z
    · have e1 : n = ad.length := by
        have := (List.getElem?_eq_some_iff.mp g1).1
        rw [List.length_append] at this
        have : n < ad.length + 1 := this
        omega
      subst e1
      rw [List.getElem?_append_right (Nat.le_refl _)] at g1
      rw [List.getElem?_append_right (by rw [c.al]; exact Nat.le_refl _)] at g2
      rw [c.al] at g2
      simp at g1 g2
      subst g1; subst g2
      exact hx.mono (Same.refl S) adp_more fun _ z => z
  · obtain ⟨v, g1, g2⟩ := c.sl i d hd
    exact ⟨v, g1, g2.mono (Same.refl S) adp_more⟩
end
/-- the target of a comprehension: it stores in the slots vs alone -/
structure SimW (K : PySem.W.Frag) (vs : List Nat) (t : TG) (g : GT) : Prop where
  run : ∀ {H0 S0 : Hp} {ad0 : Ad} {tmp : List (V × D)} {ρ : Ro} {μ : Mu} {σ : L2.St} {H : Hp} {Q : L2.St → Hp → Prop} {v : V} {d : D} {ρ' : Ro} {μ' : Mu}, Rel K H0 S0 ad0 ((v, d) :: tmp) ρ μ σ H → g d ρ μ = some (ρ', μ') →
    (∀ σ' H', Rel K H0 S0 ad0 tmp ρ' μ' σ' H' → L2.wipe σ' vs = L2.wipe σ vs → Q σ' H') → t v σ H Q
structure SimWs (K : PySem.W.Frag) (vs : List Nat) (t : TGs) (g : GTs) : Prop where
  run : ∀ {H0 S0 : Hp} {ad0 : Ad} {tmp : List (V × D)} {ρ : Ro} {μ : Mu} {σ : L2.St} {H : Hp} {Q : L2.St → Hp → Prop} {xs : List V} {ds : List D} {ρ' : Ro} {μ' : Mu}, xs.length = ds.length → Rel K H0 S0 ad0 (xs.zip ds ++ tmp) ρ μ σ H → g ds ρ μ = some (ρ', μ') →
    (∀ σ' H', Rel K H0 S0 ad0 tmp ρ' μ' σ' H' → L2.wipe σ' vs = L2.wipe σ vs → Q σ' H') → t xs σ H Q
section
variable {K : PySem.W.Frag} {vs : List Nat}
theorem simW_n (i : Nat) (h : i ∈ vs) : SimW K vs (gName i) (gN i) := ⟨fun {H0 S0 ad0 tmp ρ μ σ H Q v d ρ' μ'} R e k => by
  cases e
  obtain ⟨S, ad, c, r⟩ := R.one
  exact k _ _ ⟨S, ad, c.setv r i⟩ (wipe_set h)⟩
theorem simWs_nil : SimWs K vs gNil gN0 := ⟨fun {H0 S0 ad0 tmp ρ μ σ H Q xs ds ρ' μ'} hl R e h => by
  cases ds with
  | nil =>
    cases e
    cases xs with
    | nil => exact ⟨rfl, h _ _ R rfl⟩
    | cons _ _ => simp at hl
  | cons _ _ => cases e⟩
theorem simWs_cons {t : TG} {u : TGs} {g : GT} {h : GTs} (ht : SimW K vs t g) (hu : SimWs K vs u h) : SimWs K vs (gCons t u) (gC g h) := ⟨fun {H0 S0 ad0 tmp ρ μ σ H Q xs ds ρ' μ'} hl R e k => by
  cases ds with
  | nil => cases e
  | cons d ds =>
    cases xs with
    | nil => simp at hl
    | cons x xs =>
      have e : ((g d ρ μ).bind fun p => h ds p.1 p.2) = some (ρ', μ') := e
      cases e1 : g d ρ μ with
      | none => rw [e1] at e; cases e
      | some p =>
        rw [e1] at e
        refine ⟨x, xs, rfl, ht.run (tmp := xs.zip ds ++ tmp) R (by rw [e1]) fun σ1 H1 R1 w1 => ?_⟩
        exact hu.run (by simpa using hl) R1 e fun σ2 H2 R2 w2 => k _ _ R2 (w2.trans w1)⟩
theorem simW_tup {u : TGs} {g : GTs} {n : Nat} (hu : SimWs K vs u g) : SimW K vs (gTup K n u) (gTp n g) := ⟨fun {H0 S0 ad0 tmp ρ μ σ H Q v d ρ' μ'} R e h => by
  obtain ⟨S, ad, c, r⟩ := R.one
  cases d <;> first | cases e | skip
  rename_i ds
  have e : (if ds.length = n then g ds ρ μ else none) = some (ρ', μ') := e
  split at e
  · rename_i hn
    cases r with
    | tup hs r =>
      refine ⟨_, _, rfl, .inl (.inl (c.sh _ _ hs)), by rw [r.length]; exact hn, hu.run r.length ⟨S, ad, c.tmps fun p m => ?_⟩ e h⟩
      rcases List.mem_append.mp m with m | m
      · exact zip_rpL r p m
      · exact c.tm p m
  · cases e⟩
end
/-- the one reading of such a target -/
def canW (K : PySem.W.Frag) (vs : List Nat) (g : GT) : TG := fun v σ H Q => ∃ (H0 S0 : Hp) (ad0 : Ad) (tmp : List (V × D)) (ρ : Ro) (μ : Mu) (d : D) (ρ' : Ro) (μ' : Mu), Rel K H0 S0 ad0 ((v, d) :: tmp) ρ μ σ H ∧ g d ρ μ = some (ρ', μ') ∧
  ∀ σ' H', Rel K H0 S0 ad0 tmp ρ' μ' σ' H' → L2.wipe σ' vs = L2.wipe σ vs → Q σ' H'
theorem simW_can {K : PySem.W.Frag} {vs : List Nat} {g : GT} : SimW K vs (canW K vs g) g := ⟨fun R e k => ⟨_, _, _, _, _, _, _, _, _, R, e, k⟩⟩
def DW1 (X : Cx) (vs : List Nat) (tg : Expr) (g : GT) : Prop := ∃ t, PG X tg t ∧ SimW X.K vs t g
def DW2 (X : Cx) (vs : List Nat) (ts : List Expr) (g : GTs) : Prop := ∃ t, PGs X ts t ∧ SimWs X.K vs t g
theorem DW1.can {X : Cx} {vs : List Nat} {tg : Expr} {g : GT} (h : DW1 X vs tg g) : PG X tg (canW X.K vs g) := by
  obtain ⟨t, p, q⟩ := h
  exact ⟨fun pins s σ H v u Q I r ⟨_, _, _, _, _, _, _, _, _, R, e, k⟩ => p.run pins s σ H v u Q I r (q.run R e k)⟩
theorem dw1_n {X : Cx} {vs : List Nat} (i : Nat) {x : Str} {pos : Pos} (hN : X.N.Nodup) (h : i ∈ vs := by decide) (hi : X.N[i]? = some x := by rfl) (hx : Loc X.env.scope x := by first | exact Or.inl rfl | exact Or.inr rfl) (hf : X.fn x = true ∨ X.env.scope.names.lookup x = some .local := by first | exact .inl rfl | exact .inr rfl | assumption) :
    DW1 X vs (.Name x pos) (gN i) := ⟨_, pg_name hN hi hx hf, simW_n i h⟩
theorem dw2_nil {X : Cx} {vs : List Nat} : DW2 X vs [] gN0 := ⟨_, pgs_nil, simWs_nil⟩
theorem dw2_cons {X : Cx} {vs : List Nat} {e : Expr} {es : List Expr} {g : GT} {gs : GTs} (h1 : DW1 X vs e g) (h2 : DW2 X vs es gs) (hs : (assignEach (e :: es) X.env).map (·.2) = assign e X.env :: (assignEach es X.env).map (·.2) := by rfl) : DW2 X vs (e :: es) (gC g gs) := let ⟨_, p1, q1⟩ := h1; let ⟨_, p2, q2⟩ := h2; ⟨_, pgs_cons p1 p2 hs, simWs_cons q1 q2⟩
theorem dw1_tup {X : Cx} {vs : List Nat} {es : List Expr} {gs : GTs} {pos : Pos} {k : Nat} (n : Nat) (hc : X.calm = true) (h : DW2 X vs es gs) (hn : (assignEach es X.env).length = n := by rfl) (hst : (assignEach es X.env).findIdx? (·.1) = none := by rfl) : DW1 X vs (.Tuple es k pos) (gTp n gs) := by
  obtain ⟨_, p1, q1⟩ := h
  exact ⟨_, pg_tup hc p1 hn hst, simW_tup q1⟩
/-- the items that a comprehension makes -/
def compL (g : GT) (tt : TF) (te : EF) (ρ : Ro) : List D → Mu → List D → Res (List D)
  | [], μ, acc => .val acc μ
  | d :: ds, μ, acc => match g d ρ μ with
    | none => .fail
    | some p => match tt p.1 p.2 with
      | .val true μ3 => (match te p.1 μ3 with
        | .val y μ4 => compL g tt te ρ ds μ4 (acc ++ [y])
        | _ => .fail)
      | .val false μ3 => compL g tt te ρ ds μ3 acc
      | _ => .fail
@[simp] def eLcG (fin : List D → Mu → Res D) (fi : AF) (g : GT) (tt : TF) (te : EF) (vs : List Nat) : EF := fun ρ μ => (fi ρ μ).bind fun ds μ1 => if ds.length ≤ 50000 then (compL g tt te (wipeR ρ vs) ds μ1 []).bind fin else .fail
/-- as a value, as a cell -/
abbrev eLc : AF → GT → TF → EF → List Nat → EF := eLcG fun xs μ => .val (.lst xs) μ
abbrev eLcN : AF → GT → TF → EF → List Nat → EF := eLcG fun xs μ => .val (.ref μ.length) (μ ++ [.lst xs])
abbrev W0 : WX := fun _ _ _ _ => False
section
variable {K : PySem.W.Frag} {W : WX}
def FinOk (K : PySem.W.Frag) (W : WX) (fin : List D → Mu → Res D) : Prop := ∀ {H0 S0 : Hp} {ad0 : Ad} {S : Hp} {ad : Ad} {tmp : List (V × D)} {ρ : Ro} {μ : Mu} {σ : L2.St} {H : Hp} {Q : VK} {p : Addr} {vs : List V} {xs : List D},
  Core K H0 S0 ad0 S ad tmp ρ μ σ H → H p = some (.lst vs) → RpL K S ad vs xs → p ∉ ad → S p = none → H0 p = none → PostE K W H0 S0 ad0 tmp ρ σ Q (fin xs μ) → Q (.ref p) H
theorem fin_lc : FinOk K W (fun xs μ => .val (.lst xs) μ) := fun c h r h1 h2 h3 k => k _ _ ⟨_, _, (c.adopt h h1 h2 h3).push (.lst upd_same (r.mono (same_new h2) adp_refl))⟩
theorem fin_lcN : FinOk K W (fun xs μ => .val (.ref μ.length) (μ ++ [.lst xs])) := fun c h r h1 h2 h3 k =>
  k _ _ ⟨_, _, (c.adoptCell (x := .lst _) ⟨_, h, r⟩ h1 h2 h3).push (.ref (by rw [← c.al, List.getElem?_append_right (Nat.le_refl _)]; simp))⟩
theorem simE_lc {fin : List D → Mu → Res D} (hf : FinOk K W fin) {wi : TI} {fi : AF} {t : TG} {g : GT} {tt : TT} {ft : TF} {te : TE} {fe : EF} {vs : List Nat} (hi : SimI K W wi fi) (hg : SimW K vs t g) (ht : SimT K W0 tt ft) (he : SimE K W0 te fe) :
    SimE K W (tLc wi t tt te vs) (eLcG fin fi g ft fe vs) := ⟨fun {H0 S0 ad0 tmp ρ μ σ H Q} R k => by
  refine hi.run R ?_
  unfold eLcG at k
  cases e1 : fi ρ μ with
  | fail => rw [e1] at k; exact k.elim
  | exc x μ1 => rw [e1] at k; exact k
  | val ds μ1 =>
    rw [e1] at k
    simp only [bind_val] at k
    intro J tl H1 R1 jw D hD
    split at k
    · rename_i hz
      obtain ⟨S1, ad1, c1⟩ := R1
      obtain ⟨f1, f2, f3⟩ := c1.fresh hD
      refine ⟨fun i m H => m = ds.length - i ∧ i ≤ ds.length ∧ ∃ (S : Hp) (ad : Ad) (μ : Mu) (vsA : List V) (acc : List Dn.D), Core K H0 S0 ad0 S ad (tl ++ tmp) ρ μ σ H ∧ H D = some (.lst vsA) ∧ RpL K S ad vsA acc ∧ D ∉ ad ∧ S D = none ∧ acc.length ≤ i ∧
          PostE K W H0 S0 ad0 tmp ρ σ Q ((compL g ft fe (wipeR ρ vs) (ds.drop i) μ acc).bind fin),
        ⟨ds.length, by simp, Nat.zero_le _, S1, ad1, μ1, [], [], c1.free f2 f1 f3, upd_same, .nil, f2, f1, Nat.le_refl _, k⟩, ?_⟩
      rintro i m H ⟨rfl, hi, S, ad, μ, vsA, acc, c, hDa, ra, na, ns, hacc, k⟩
      have here := (c.here).wipe vs
      obtain ⟨j1, j2⟩ := jw ⟨S, ad, c⟩ i
      by_cases hlt : i < ds.length
      · obtain ⟨jw1, _⟩ := jw ⟨S, ad, here⟩ i
        obtain ⟨go, yl⟩ := jw1 ds[i] (List.getElem?_eq_getElem hlt)
        refine .inr ⟨go, fun H' => ∃ (S : Hp) (ad : Ad) (μ : Mu) (vsA : List V) (acc : List Dn.D), Core K H0 S0 ad0 S ad (tl ++ tmp) ρ μ σ H' ∧ H' D = some (.lst vsA) ∧ RpL K S ad vsA acc ∧ D ∉ ad ∧ S D = none ∧ acc.length ≤ i + 1 ∧
          PostE K W H0 S0 ad0 tmp ρ σ Q ((compL g ft fe (wipeR ρ vs) (ds.drop (i + 1)) μ acc).bind fin), fun H' ⟨S', ad', μ', vs', acc', q1, q2, q3, q4, q5, q6, q7⟩ => ⟨ds.length - (i + 1), by omega, rfl, hlt, S', ad', μ', vs', acc', q1, q2, q3, q4, q5, q6, q7⟩, fun x H' y => ?_⟩
        have R2 := yl x H' y
        -- what stood at D stands behind all that a turn does
        have stays : ∀ {S4 : Hp} {ad4 : Ad} {tmp4 : List (V × Dn.D)} {ρ4 : Ro} {μ4 : Mu} {σ4 : L2.St} {H4 : Hp}, Core K H S ad S4 ad4 tmp4 ρ4 μ4 σ4 H4 → H4 D = some (.lst vsA) ∧ D ∉ ad4 ∧ S4 D = none := fun {S4 ad4 tmp4 ρ4 μ4 σ4 H4} c4 => by
          have n4 : D ∉ ad4 := fun m => by
            obtain ⟨more, e, q⟩ := c4.a0
            rw [e] at m
            rcases List.mem_append.mp m with m | m
            · exact na m
            · rw [q D m] at hDa; cases hDa
          refine ⟨c4.kp D _ hDa n4, n4, ?_⟩
          cases e : S4 D with
          | none => rfl
          | some o =>
            rcases c4.sn D o e with z | z | ⟨xs, z⟩
            · rw [ns] at z; cases z
            · rw [hDa] at z; cases z
            · rw [hDa] at z; cases z
        rw [List.drop_eq_getElem_cons hlt] at k
        unfold compL at k
        cases e2 : g ds[i] (wipeR ρ vs) μ with
        | none => rw [e2] at k; exact k.elim
        | some p =>
          rw [e2] at k
          simp only at k
          refine hg.run R2 e2 fun σ2 H2 R2 w2 => ⟨w2.trans (wipe_wipe vs), ht.run R2 ?_⟩
          cases e3 : ft p.1 p.2 with
          | fail => rw [e3] at k; exact k.elim
          | exc x μ1 => rw [e3] at k; exact k.elim
          | val b μ3 =>
            rw [e3] at k
            intro H3 R3
            cases b with
            | false =>
              refine iteF ?_
              obtain ⟨S3, ad3, c3⟩ := R3
              obtain ⟨d1, d2, d3⟩ := stays c3
              exact ⟨S3, ad3, μ3, vsA, acc, (c.keep c3).tmps fun q m => (c.keep c3).tm q (List.mem_append_right _ m), d1, ra.mono c3.s0 c3.adp, d2, d3, by omega, k⟩
            | true =>
              simp only at k
              refine iteT (he.run R3 ?_)
              cases e4 : fe p.1 μ3 with
              | fail => rw [e4] at k; exact k.elim
              | exc x μ1 => rw [e4] at k; exact k.elim
              | val y μ4 =>
                rw [e4] at k
                intro v H4 R4
                obtain ⟨S4, ad4, c4⟩ := R4
                obtain ⟨d1, d2, d3⟩ := stays c4
                have ra4 := ra.mono c4.s0 c4.adp
                refine ⟨vsA, d1, sz_lt (by rw [ra.length]; omega), S4, ad4, μ4, vsA ++ [v], acc ++ [y], ((c.keep c4).tmps fun q m => (c.keep c4).tm q (List.mem_append_right _ m)).free d2 d3 f3, upd_same, ra4.append (.cons c4.hd .nil), d2, d3, by rw [List.length_append]; show acc.length + 1 ≤ i + 1; omega, k⟩
      · have e : i = ds.length := by omega
        subst e
        rw [List.drop_length] at k
        refine .inl ⟨j2 (Nat.le_refl _), hf (c.tmps fun q m => c.tm q (List.mem_append_right _ m)) hDa ra na ns f3 k⟩
    · exact k.elim⟩
end
section
variable {X : Cx} {W : WX} {elt tg iter : Expr} {ifs : List Expr} {scope : Scope} {own : List (Str × Nat)} {pos spos py : Pos} {fi : AF} {g : GT} {ft : TF} {fe : EF} {fin : List D → Mu → Res D}
theorem de_lcG (hfin : FinOk X.K W fin) (hc : X.calm = true) (hN : X.N.Nodup) (hi : DI X W tg iter fi) (ok : BlkOk X.N X.env.scope scope own)
    (hg : ∀ (s : Shared) (H : Hp) (C : Addr) (cl : List (Str × Addr)) (fp : List Addr), DW1 (X.blk s H scope (compEnvC scope cl C X.env) fp) (own.map (·.2)) tg g) (ht : ∀ (s : Shared) (H : Hp) (C : Addr) (cl : List (Str × Addr)) (fp : List Addr), DTs (X.blk s H scope (compEnvC scope cl C X.env) fp) W0 ifs ft)
    (he : ∀ (s : Shared) (H : Hp) (C : Addr) (cl : List (Str × Addr)) (fp : List Addr), DE (X.blk s H scope (compEnvC scope cl C X.env) fp) W0 elt fe) (hs : ∀ x, foldedSetIterable iter X.env x = pure x := by intro _; rfl) :
    DE X W (.ListComp elt [⟨tg, iter, ifs, 0⟩] scope pos) (eLcG fin fi g ft fe (own.map (·.2))) := by
  obtain ⟨_, p1, q1⟩ := hi
  exact ⟨_, pe_lc hc hN p1 ok (fun s H C cl fp => (hg s H C cl fp).can) (fun s H C cl fp => (ht s H C cl fp).can) (fun s H C cl fp => (he s H C cl fp).can) hs, simE_lc hfin q1 simW_can simT_can simE_can⟩
theorem ds_lcG (i : Nat) {y : Str} (hfin : FinOk X.K W fin) (hc : X.calm = true) (hN : X.N.Nodup) (hi : DI X W tg iter fi) (ok : BlkOk X.N X.env.scope scope own)
    (hg : ∀ (s : Shared) (H : Hp) (C : Addr) (cl : List (Str × Addr)) (fp : List Addr), DW1 (X.blk s H scope (compEnvC scope cl C X.env) fp) (own.map (·.2)) tg g) (ht : ∀ (s : Shared) (H : Hp) (C : Addr) (cl : List (Str × Addr)) (fp : List Addr), DTs (X.blk s H scope (compEnvC scope cl C X.env) fp) W0 ifs ft)
    (he : ∀ (s : Shared) (H : Hp) (C : Addr) (cl : List (Str × Addr)) (fp : List Addr), DE (X.blk s H scope (compEnvC scope cl C X.env) fp) W0 elt fe)
    (hy : X.N[i]? = some y := by rfl) (hyl : X.env.scope.names.lookup y = some .local := by rfl)
    (hsw : swapsWith (.ListComp elt [⟨tg, iter, ifs, 0⟩] scope pos) (some (.Name y py)) spos.line X.env = pure true := by exact sw_true rfl rfl rfl (by decide +kernel)) (hs : ∀ x, foldedSetIterable iter X.env x = pure x := by intro _; rfl) :
    DS X W (.Assign [.Name y py] (.ListComp elt [⟨tg, iter, ifs, 0⟩] scope pos) spos) (sAsg i (eLcG fin fi g ft fe (own.map (·.2)))) := by
  obtain ⟨_, p1, q1⟩ := hi
  exact ⟨_, ps_setLc hc hN hy hyl hsw p1 ok (fun s H C cl fp => (hg s H C cl fp).can) (fun s H C cl fp => (ht s H C cl fp).can) (fun s H C cl fp => (he s H C cl fp).can) hs, simS_asg (simE_lc hfin q1 simW_can simT_can simE_can) (simG_n i)⟩
end
/-! ### xs[i] = e, a cell -/
@[simp] def gSetIx (o i : EF) : GT := fun d ρ μ => match o ρ μ with
  | .val (.ref n) μ1 => (match i ρ μ1 with
    | .val (.int k) μ2 => (match μ2[n]? with
      | some (.lst xs) => (match ixN xs.length k with
        | some j => some (ρ, μ2.set n (.lst (xs.set j d)))
        | none => none)
      | _ => none)
    | _ => none)
  | _ => none
section
variable {K : PySem.W.Frag} {W : WX}
theorem simG_setIx {to ti : TE} {fo fi : EF} (ho : SimE K W0 to fo) (hi : SimE K W0 ti fi) : SimG K (L2.gSub to ti rSetL) (gSetIx fo fi) := ⟨fun {H0 S0 ad0 tmp ρ μ σ H Q v d ρ' μ'} R e k => by
  refine ho.run R ?_
  unfold gSetIx at e
  split at e
  · rename_i n μ1 e1
    rw [e1]
    intro w H1 R1
    refine hi.run R1 ?_
    split at e
    · rename_i kk μ2 e2
      rw [e2]
      intro z H2 R2
      split at e
      · rename_i xs hm
        split at e
        · rename_i j hj
          cases e
          obtain ⟨S, ad, c⟩ := R2
          have r2 := c.hd
          have r1 := c.pop.hd
          have r0 := c.pop.pop.hd
          cases r2
          cases r1 with
          | ref ha =>
            rename_i a
            obtain ⟨vs, h1, h2⟩ := c.at_ n a _ ha hm
            exact ⟨a, vs, kk, j, rfl, rfl, h1, by rw [h2.length]; exact hj, k _ _ ⟨S, ad, wrLst (xs := xs) c.pop.pop.pop ha (h2.set r0 j)⟩⟩
        · cases e
      · cases e
    · cases e
  · cases e⟩
end
theorem dg_setIx {X : Cx} {o i : Expr} {fo fi : EF} {pos : Pos} (ho : DE X W0 o fo) (hi : DE X W0 i fi) (ha : ∀ v, assign (.Subscript o i pos) X.env v = (do
      let ov ← holding [v] (eval o X.env)
      let iv ← holding [v, ov] (eval i X.env)
      standAt pos
      holding [v, ov, iv] (setItem ov iv v)
      release [v, ov, iv] []) := by intro _; rfl) : DG X (.Subscript o i pos) (gSetIx fo fi) := let ⟨_, p1, q1⟩ := ho; let ⟨_, p2, q2⟩ := hi; ⟨_, pg_sub p1 p2 set_list ha, simG_setIx q1 q2⟩

/-! ### defs -/
def runF (n : Nat) (b : SF) : List D → Mu → Res D := fun ds μ => match b (ds.map some ++ List.replicate (n - ds.length) none) μ with
  | .ret d μ' => .val d μ'
  | .nx _ μ' => .val .non μ'
  | .exc x _ μ' => .exc x μ'
  | _ => .fail
/-- a def's promise: it does as F does; of one that lets nothing out -/
def PostN (K : PySem.W.Frag) (H0 S0 : Hp) (ad0 : Ad) (Q : VK) : Res D → Prop
  | .val d μ => ∀ v H, Rel K H0 S0 ad0 [(v, d)] [] μ [] H → Q v H
  | _ => False
def spN (K : PySem.W.Frag) (n : Nat) (F : List D → Mu → Res D) : Sp := fun vs H Q _ => ∃ (S : Hp) (ad : Ad) (μ : Mu) (ds : List D), vs.length = n ∧ ds.length = n ∧ Core K H S ad S ad (vs.zip ds) [] μ [] H ∧ PostN K H S ad Q (F ds μ)
section
variable {K : PySem.W.Frag} {H0 S0 : Hp} {ad0 : Ad} {S : Hp} {ad : Ad} {tmp : List (V × D)} {ρ : Ro} {μ : Mu} {σ : L2.St} {H : Hp}
theorem Core.noslots (c : Core K H0 S0 ad0 S ad tmp ρ μ σ H) : Core K H0 S0 ad0 S ad tmp [] μ [] H := { c with ln := rfl, sl := fun i d h => by simp at h }
theorem Rel.noslots (r : Rel K H0 S0 ad0 tmp ρ μ σ H) : Rel K H0 S0 ad0 tmp [] μ [] H := let ⟨S, ad, c⟩ := r; ⟨S, ad, c.noslots⟩
theorem Core.start {vs : List V} {ds : List D} {N : List Str} (hl : vs.length = ds.length) (hN : vs.length ≤ N.length) (c : Core K H0 S0 ad0 S ad (vs.zip ds) [] μ [] H) : Core K H0 S0 ad0 S ad [] (ds.map some ++ List.replicate (N.length - ds.length) none) μ (L2.start N vs) H := by
  have r : RpL K S ad vs ds := rpL_zip hl c.tm
  refine { c with ln := ?_, sl := fun i d h => ?_, tm := fun p m => by simp at m }
  · unfold L2.start
    rw [List.length_append, List.length_append, List.length_map, List.length_map, List.length_replicate, List.length_replicate, hl]
  · unfold L2.start
    by_cases hi : i < ds.length
    · rw [List.getElem?_append_left (by rw [List.length_map]; exact hi), List.getElem?_map] at h
      cases e : ds[i]? with
      | none => rw [e] at h; cases h
      | some d' =>
        rw [e] at h
        cases h
        obtain ⟨v, h1, h2⟩ := r.get e
        exact ⟨v, by rw [List.getElem?_append_left (by rw [List.length_map, hl]; exact hi), List.getElem?_map, h1]; rfl, h2⟩
    · rw [List.getElem?_append_right (by rw [List.length_map]; omega), List.getElem?_replicate] at h
      split at h <;> cases h
end
section
variable {P : Program} {w : World} {K : PySem.W.Frag} {mg : Str → Option Value} {base : Heap}
theorem fnN {x qual : Str} {st : Stmt} {f : Addr} {fd : FuncData} {N ps : List Str} {k : Nat} {b : SF} (F : Fun K x qual st f fd) (S : FnScope N ps (defScope st))
    (hb : ∀ (cdv : Value) (A : Around) (outer : List Env) (s : Shared) (H : Hp) (E : XK), Room k (A.deeper (envOfC qual (defScope st) s.heap.objs.size f cdv)) → DSs (cxOf CX0 P w K mg base N qual (defScope st) f cdv A outer s H E).nox W0 (defBody st) b) :
    FnOk P w K mg base CX0 (k + 1) f fd ps (spN K ps.length (runF N.length b)) := by
  refine F.ok S (fun vs H Q E h => ?_) (fun cdv A outer s H vs Q E hr h => ?_)
  · obtain ⟨_, _, _, _, h, _⟩ := h
    exact h
  · obtain ⟨S1, ad, μ, ds, hl, hd, c, k⟩ := h
    obtain ⟨t, p, q⟩ := hb cdv A outer s H E hr
    refine ⟨t, p, q.run ⟨S1, ad, c.start (N := N) (by rw [hl, hd]) (by
      have := congrArg List.length S.pre
      rw [List.length_take] at this
      omega)⟩ ?_⟩
    unfold runF at k
    cases e : b (ds.map some ++ List.replicate (N.length - ds.length) none) μ with
    | ret d μ' => rw [e] at k; exact fun v ρ σ H R => k v H R.noslots
    | nx ρ μ' => rw [e] at k; exact fun σ H R => k .non H (R.noslots.flat flat_non)
    | exc x ρ μ' => rw [e] at k; exact k.elim
    | bk ρ μ' => rw [e] at k; exact k.elim
    | ct ρ μ' => rw [e] at k; exact k.elim
    | fail => rw [e] at k; exact k.elim
end
/-! ### calls -/
mutual
@[simp] def nf : D → Bool
  | .ref _ => false
  | .tup xs => nfL xs
  | .lst xs => nfL xs
  | _ => true
@[simp] def nfL : List D → Bool
  | [] => true
  | x :: xs => nf x && nfL xs
end
mutual
@[simp] def fz (μ : Mu) : D → D
  | .ref n => (match μ[n]? with
    | some (.lst xs) => .lst xs
    | _ => .ref n)
  | .tup xs => .tup (fzL μ xs)
  | .lst xs => .lst (fzL μ xs)
  | d => d
@[simp] def fzL (μ : Mu) : List D → List D
  | [] => []
  | x :: xs => fz μ x :: fzL μ xs
end
section
variable {K : PySem.W.Frag} {S S' : Hp} {ad ad' : Ad}
mutual
theorem Rp.nofree (e : Same S S') : ∀ {d : D} {v : V}, Rp K S ad v d → nf d = true → Rp K S' ad' v d
  | .non, _, r, _ => by cases r; exact .non
  | .bl b, _, r, _ => by cases r; exact .bl b
  | .int i, _, r, _ => by cases r; exact .int i
  | .str s, _, r, _ => by cases r; exact .str s
  | .scr ns, _, r, _ => by cases r with | scr h => exact .scr (e.seq h)
  | .raw v, _, r, _ => by cases r; exact .raw v
  | .ref n, _, _, h => by simp [nf] at h
  | .tup xs, _, r, h => by
    simp only [nf] at h
    cases r with | tup hs hr => exact .tup (e _ _ hs) (RpL.nofree e hr h)
  | .lst xs, _, r, h => by
    simp only [nf] at h
    cases r with | lst hs hr => exact .lst (e _ _ hs) (RpL.nofree e hr h)
theorem RpL.nofree (e : Same S S') : ∀ {ds : List D} {vs : List V}, RpL K S ad vs ds → nfL ds = true → RpL K S' ad' vs ds
  | [], _, r, _ => by cases r; exact .nil
  | d :: ds, _, r, h => by
    simp only [nfL, Bool.and_eq_true] at h
    cases r with | cons h1 h2 => exact .cons (Rp.nofree e h1 h.1) (RpL.nofree e h2 h.2)
end
end
section
variable {K : PySem.W.Frag} {H0 S0 : Hp} {ad0 : Ad} {S : Hp} {ad : Ad} {tmp : List (V × D)} {ρ : Ro} {μ : Mu} {σ : L2.St} {H : Hp} {S2 : Hp}
mutual
/-- a value whose lists are cells, where the cells stay from now on -/
theorem Rp.frozen (c : Core K H0 S0 ad0 S ad tmp ρ μ σ H) (e : Same S S2) (k : ∀ a ∈ ad, ∀ o, H a = some o → S2 a = some o) : ∀ {d : D} {v : V}, Rp K S ad v d → nf (fz μ d) = true → Rp K S2 [] v (fz μ d)
  | .non, _, r, _ => by cases r; simp only [fz]; exact .non
  | .bl b, _, r, _ => by cases r; simp only [fz]; exact .bl b
  | .int i, _, r, _ => by cases r; simp only [fz]; exact .int i
  | .str s, _, r, _ => by cases r; simp only [fz]; exact .str s
  | .scr ns, _, r, _ => by cases r with | scr h => simp only [fz]; exact .scr (e.seq h)
  | .raw v, _, r, _ => by cases r; simp only [fz]; exact .raw v
  | .ref n, _, r, h => by
    cases r with
    | ref ha =>
      simp only [fz] at h ⊢
      split at h
      · rename_i xs hm
        obtain ⟨vs, h1, h2⟩ := c.at_ n _ _ ha hm
        simp only [nf] at h
        exact .lst (k _ (List.mem_of_getElem? ha) _ h1) (h2.nofree e h)
      · simp [nf] at h
  | .tup xs, _, r, h => by
    simp only [fz, nf] at h ⊢
    cases r with | tup hs hr => exact .tup (e _ _ hs) (RpL.frozen c e k hr h)
  | .lst xs, _, r, h => by
    simp only [fz, nf] at h ⊢
    cases r with | lst hs hr => exact .lst (e _ _ hs) (RpL.frozen c e k hr h)
theorem RpL.frozen (c : Core K H0 S0 ad0 S ad tmp ρ μ σ H) (e : Same S S2) (k : ∀ a ∈ ad, ∀ o, H a = some o → S2 a = some o) : ∀ {ds : List D} {vs : List V}, RpL K S ad vs ds → nfL (fzL μ ds) = true → RpL K S2 [] vs (fzL μ ds)
  | [], _, r, _ => by cases r; exact .nil
  | d :: ds, _, r, h => by
    simp only [fzL, nfL, Bool.and_eq_true] at h ⊢
    cases r with | cons h1 h2 => exact .cons (Rp.frozen c e k h1 h.1) (RpL.frozen c e k h2 h.2)
end
/-- a call of a def with a memory of its own: what stood stands, what comes back is frozen -/
theorem Core.back {S2 : Hp} {ad2 : Ad} {μ2 : Mu} {H2 : Hp} {v : V} {d : D} (c : Core K H0 S0 ad0 S ad tmp ρ μ σ H) (c2 : Core K H S [] S2 ad2 [(v, d)] [] μ2 [] H2) (hn : nf (fz μ2 d) = true) : Rel K H0 S0 ad0 ((v, fz μ2 d) :: tmp) ρ μ σ H2 := by
  have new : ∀ a ∈ ad2, H a = none := by
    obtain ⟨more, e, k⟩ := c2.a0
    rw [e]
    simpa using k
  let S3 : Hp := fun b => if b ∈ ad2 then H2 b else S2 b
  have i3 : ∀ {b : Addr}, b ∈ ad2 → S3 b = H2 b := fun h => if_pos h
  have o3 : ∀ {b : Addr}, b ∉ ad2 → S3 b = S2 b := fun h => if_neg h
  have e2 : Same S2 S3 := fun b o e => by
    rw [o3 fun m => by rw [c2.as b m] at e; cases e]; exact e
  have e1 : Same S S3 := c2.s0.trans e2
  have live : ∀ {a : Addr}, a ∈ ad → a ∉ ad2 := fun m m2 => by
    obtain ⟨o, e⟩ := c.live m
    rw [new _ m2] at e; cases e
  have none3 : ∀ a ∈ ad, S3 a = none := fun a m => by
    rw [o3 (live m)]
    cases e : S2 a with
    | none => rfl
    | some o =>
      rcases c2.sn a o e with z | z | ⟨xs, z⟩
      · rw [c.as a m] at z; cases z
      · obtain ⟨u, q⟩ := c.live m
        rw [z] at q; cases q
      · exact (c.notup z m).elim
  refine ⟨S3, ad, { kp := fun b o e n => ?_, s0 := c.s0.trans e1, sn := fun b o e => ?_, sh := fun b o e => ?_, a0 := c.a0, as := none3, nd := c.nd, al := c.al, at_ := fun n a x h1 h2 => ?_, ln := c.ln, sl := fun i d h => ?_, tm := fun p m => ?_ }⟩
  · have q := c.kp b o e n
    exact c2.kp b o q fun m => by rw [new b m] at q; cases q
  · by_cases hb : b ∈ ad2
    · exact .inr (.inl (c.fresh (new b hb)).2.2)
    · rw [o3 hb] at e
      rcases c2.sn b o e with z | z | ⟨xs, z⟩
      · exact c.sn b o z
      · exact .inr (.inl (c.fresh z).2.2)
      · cases e0 : H0 b with
        | none => exact .inr (.inl rfl)
        | some u =>
          have q := c.kp b u e0 (c.notup z)
          rw [z] at q
          cases q
          exact .inr (.inr ⟨_, rfl⟩)
  · by_cases hb : b ∈ ad2
    · rw [i3 hb] at e; exact e
    · rw [o3 hb] at e; exact c2.sh b o e
  · have m := List.mem_of_getElem? h1
    exact (c.at_ n a x h1 h2).mono e1 adp_refl fun o e => c2.kp a o e (live m)
  · obtain ⟨u, h1, h2⟩ := c.sl i d h
    exact ⟨u, h1, h2.mono e1 adp_refl⟩
  · rcases List.mem_cons.mp m with m | m
    · subst m
      exact (Rp.frozen c2 e2 (fun a m o e => by rw [i3 m]; exact e) c2.hd hn).mono (Same.refl S3) fun n a h => by simp at h
    · exact (c.tm p m).mono e1 adp_refl
end
/-- f(..): arguments without cells, its own memory, its answer frozen -/
@[simp] def eCall (n : Nat) (F : List D → Mu → Res D) (fa : AF) : EF := fun ρ μ => (fa ρ μ).bind fun ds μ1 => if ds.length = n ∧ nfL ds = true then (match F ds [] with
  | .val d μ2 => if nf (fz μ2 d) = true then .val (fz μ2 d) μ1 else .fail
  | _ => .fail) else .fail
/-- f(..) that works in the caller's memory -/
@[simp] def eCallM (n : Nat) (F : List D → Mu → Res D) (fa : AF) : EF := fun ρ μ => (fa ρ μ).bind fun ds μ1 => if ds.length = n then (match F ds μ1 with
  | .val d μ2 => .val d μ2
  | _ => .fail) else .fail
section
variable {K : PySem.W.Frag} {W : WX}
theorem simE_call {n : Nat} {F : List D → Mu → Res D} {ta : TA} {fa : AF} (ha : SimA K W ta fa) : SimE K W (tCall (spN K n F) [] E0 ta) (eCall n F fa) := ⟨fun {H0 S0 ad0 tmp ρ μ σ H Q} R k => by
  refine ha.run R ?_
  unfold eCall at k
  cases e1 : fa ρ μ with
  | fail => rw [e1] at k; exact k.elim
  | exc x μ1 => rw [e1] at k; exact k
  | val ds μ1 =>
    rw [e1] at k
    simp only [bind_val] at k
    intro vs H1 hl R1
    split at k
    · rename_i hn
      obtain ⟨S, ad, c, r⟩ := R1.args hl
      rw [List.append_nil]
      refine ⟨S, [], [], ds, by rw [hl]; exact hn.1, hn.1, ⟨fun _ _ e _ => e, Same.refl S, fun _ _ e => .inl e, c.sh, ⟨[], rfl, by simp⟩, by simp, by simp, rfl, fun n a x h => by simp at h, rfl, fun i d h => by simp at h, zip_rpL (r.nofree (Same.refl S) hn.2)⟩, ?_⟩
      cases e2 : F ds [] with
      | fail => rw [e2] at k; exact k.elim
      | exc x μ2 => rw [e2] at k; exact k.elim
      | val d μ2 =>
        rw [e2] at k
        simp only at k
        split at k
        · rename_i hf
          rintro v H2 ⟨S2, ad2, c2⟩
          exact k v H2 (c.back c2 hf)
        · exact k.elim
    · exact k.elim⟩
theorem simE_callM {n : Nat} {F : List D → Mu → Res D} {ta : TA} {fa : AF} (ha : SimA K W ta fa) : SimE K W (tCall (spN K n F) [] E0 ta) (eCallM n F fa) := ⟨fun {H0 S0 ad0 tmp ρ μ σ H Q} R k => by
  refine ha.run R ?_
  unfold eCallM at k
  cases e1 : fa ρ μ with
  | fail => rw [e1] at k; exact k.elim
  | exc x μ1 => rw [e1] at k; exact k
  | val ds μ1 =>
    rw [e1] at k
    simp only [bind_val] at k
    intro vs H1 hl R1
    split at k
    · rename_i hn
      obtain ⟨S, ad, c, r⟩ := R1.args hl
      rw [List.append_nil]
      refine ⟨S, ad, μ1, ds, by rw [hl]; exact hn, hn, (c.here.tmps (zip_rpL r)).noslots, ?_⟩
      cases e2 : F ds μ1 with
      | fail => rw [e2] at k; exact k.elim
      | exc x μ2 => rw [e2] at k; exact k.elim
      | val d μ2 =>
        rw [e2] at k
        rintro v H2 ⟨S2, ad2, c2⟩
        exact k v H2 ⟨S2, ad2, c.keep c2⟩
    · exact k.elim⟩
end
section
variable {X : Cx} {W : WX} {e : Expr} {es : List Expr} {fa : AF} {n k : Nat} {f : Addr} {fd : FuncData} {ps : List Str} {x : Str} {p pos : Pos} {F : List D → Mu → Res D}
theorem de_call (G : FnOk X.prog X.w X.K X.mg X.base CX0 k f fd ps (spN X.K n F)) (hr : Room k X.A) (hg : Gl X x) (hm : X.mg x = some (.ref f)) (hk : PySem.W.keepIn X.K (.ref f) = true) (hb : Binds X.K fd ps []) (ha : DA X W (e :: es) fa)
    (hdb : (x == ("__debug__" : Str)) = false := by decide) (he : starEach (e :: es) X.env = (false, eval e X.env) :: starEach es X.env := by rfl) (hpl : (backTo pos (starEach es X.env)).any (·.1) = false := by rfl) : DE X W (.Call (.Name x p) (e :: es) [] pos) (eCall n F fa) :=
  let ⟨_, p1, q1⟩ := ha; ⟨_, pe_call G hr hg hm hk hb .nil pass0 p1 hdb he hpl, simE_call q1⟩
theorem de_callM (G : FnOk X.prog X.w X.K X.mg X.base CX0 k f fd ps (spN X.K n F)) (hr : Room k X.A) (hg : Gl X x) (hm : X.mg x = some (.ref f)) (hk : PySem.W.keepIn X.K (.ref f) = true) (hb : Binds X.K fd ps []) (ha : DA X W (e :: es) fa)
    (hdb : (x == ("__debug__" : Str)) = false := by decide) (he : starEach (e :: es) X.env = (false, eval e X.env) :: starEach es X.env := by rfl) (hpl : (backTo pos (starEach es X.env)).any (·.1) = false := by rfl) : DE X W (.Call (.Name x p) (e :: es) [] pos) (eCallM n F fa) :=
  let ⟨_, p1, q1⟩ := ha; ⟨_, pe_call G hr hg hm hk hb .nil pass0 p1 hdb he hpl, simE_callM q1⟩
end
/-- the law's own end -/
theorem law_end {K : PySem.W.Frag} {H : Hp} {a : Addr} {ns : List Int} {F : List D → Mu → Res D} {E : XK} (h : ∃ μ, F [.scr ns] [] = .val (.bl true) μ) (hS : SqL K H a (ns.map V.int)) : spN K 1 F [.ref a] H (fun v _ => v = .bl true) E := by
  obtain ⟨μ, h⟩ := h
  refine ⟨H, [], [], [.scr ns], rfl, rfl, ⟨fun _ _ e _ => e, Same.refl H, fun _ _ e => .inl e, Same.refl H, ⟨[], rfl, by simp⟩, by simp, by simp, rfl, fun n a x h => by simp at h, rfl, fun i d h => by simp at h, fun p m => ?_⟩, ?_⟩
  · have e : p = (.ref a, .scr ns) := by simpa using m
    subst e
    exact .scr hS
  · rw [h]
    rintro v H2 ⟨S, ad, c⟩
    cases c.hd
    rfl
end Dn

/-! Dn6: the denotations' equations for simp. -/
namespace Dn
open PySem PySem.Spec PyProof.Rows L2

section
variable {i j : Int} {μ : Mu} {a b : Str} {d e : D} {xs ys : List D}
@[simp] theorem gAdd_int : gAdd (.int i) (.int j) μ = .val (.int (i + j)) μ := rfl
@[simp] theorem gMinus_int : gMinus (.int i) (.int j) μ = .val (.int (i - j)) μ := rfl
@[simp] theorem gLt_int : gLt (.int i) (.int j) μ = .val (.bl (decide (i < j))) μ := rfl
@[simp] theorem gLe_int : gLe (.int i) (.int j) μ = .val (.bl (decide (i ≤ j))) μ := rfl
@[simp] theorem gGt_int : gGt (.int i) (.int j) μ = .val (.bl (decide (j < i))) μ := rfl
@[simp] theorem gGe_int : gGe (.int i) (.int j) μ = .val (.bl (decide (j ≤ i))) μ := rfl
@[simp] theorem gNeg_int : gNeg (.int i) μ = .val (.int (-i)) μ := rfl
@[simp] theorem gEq_int : gEq (.int i) (.int j) μ = .val (.bl (decide (i = j))) μ := rfl
@[simp] theorem gNe_int : gNe (.int i) (.int j) μ = .val (.bl (!decide (i = j))) μ := rfl
@[simp] theorem gEq_str : gEq (.str a) (.str b) μ = .val (.bl (decide (a = b))) μ := rfl
@[simp] theorem gNe_str : gNe (.str a) (.str b) μ = .val (.bl (!decide (a = b))) μ := rfl
@[simp] theorem gEq_bl {a b : Bool} : gEq (.bl a) (.bl b) μ = .val (.bl (decide (a = b))) μ := rfl
@[simp] theorem gNe_bl {a b : Bool} : gNe (.bl a) (.bl b) μ = .val (.bl (!decide (a = b))) μ := rfl
theorem gEq_py {p q : PyData} (hn : ∀ i j, ¬ (d = .int i ∧ e = .int j)) (hs : ∀ i j, ¬ (d = .str i ∧ e = .str j)) (hb : ∀ i j, ¬ (d = .bl i ∧ e = .bl j)) (h1 : topPy d μ = some p) (h2 : topPy e μ = some q) (h3 : SeqAt.shaped p = true) (h4 : SeqAt.shaped q = true) : gEq d e μ = .val (.bl (PyData.eqv p q)) μ := by
  have : gEqS d e μ = .fail := by
    unfold gEqS
    split
    · exact absurd ⟨rfl, rfl⟩ (hn _ _)
    · exact absurd ⟨rfl, rfl⟩ (hs _ _)
    · exact absurd ⟨rfl, rfl⟩ (hb _ _)
    · rfl
  unfold gEq orG
  rw [this]
  simp only
  unfold gEqD
  rw [h1, h2]
  simp only
  rw [if_pos ⟨h3, h4⟩]
theorem gNe_py {p q : PyData} (hn : ∀ i j, ¬ (d = .int i ∧ e = .int j)) (hs : ∀ i j, ¬ (d = .str i ∧ e = .str j)) (hb : ∀ i j, ¬ (d = .bl i ∧ e = .bl j)) (h1 : topPy d μ = some p) (h2 : topPy e μ = some q) (h3 : SeqAt.shaped p = true) (h4 : SeqAt.shaped q = true) : gNe d e μ = .val (.bl (!PyData.eqv p q)) μ := by
  have : gNeS d e μ = .fail := by
    unfold gNeS
    split
    · exact absurd ⟨rfl, rfl⟩ (hn _ _)
    · exact absurd ⟨rfl, rfl⟩ (hs _ _)
    · exact absurd ⟨rfl, rfl⟩ (hb _ _)
    · rfl
  unfold gNe orG
  rw [this]
  simp only
  unfold gNeD
  rw [h1, h2]
  simp only
  rw [if_pos ⟨h3, h4⟩]
@[simp] theorem gEq_nn : gEq .non .non μ = .val (.bl true) μ := by rw [gEq_py (p := .none) (q := .none) (by simp) (by simp) (by simp) rfl rfl rfl rfl]; rfl
@[simp] theorem gNe_nn : gNe .non .non μ = .val (.bl false) μ := by rw [gNe_py (p := .none) (q := .none) (by simp) (by simp) (by simp) rfl rfl rfl rfl]; rfl
@[simp] theorem gIsN_non : gIsN .non .non μ = .val (.bl true) μ := rfl
@[simp] theorem gIsN_int : gIsN (.int i) .non μ = .val (.bl false) μ := rfl
@[simp] theorem gIsN_str : gIsN (.str a) .non μ = .val (.bl false) μ := rfl
@[simp] theorem gIsN_tup : gIsN (.tup xs) .non μ = .val (.bl false) μ := rfl
@[simp] theorem gIsN_lst : gIsN (.lst xs) .non μ = .val (.bl false) μ := rfl
@[simp] theorem gIsN_ref {n : Nat} : gIsN (.ref n) .non μ = .val (.bl false) μ := rfl
@[simp] theorem gNotN_non : gNotN .non .non μ = .val (.bl false) μ := rfl
@[simp] theorem gNotN_int : gNotN (.int i) .non μ = .val (.bl true) μ := rfl
@[simp] theorem gNotN_str : gNotN (.str a) .non μ = .val (.bl true) μ := rfl
@[simp] theorem gNotN_tup : gNotN (.tup xs) .non μ = .val (.bl true) μ := rfl
@[simp] theorem gNotN_lst : gNotN (.lst xs) .non μ = .val (.bl true) μ := rfl
@[simp] theorem gNotN_ref {n : Nat} : gNotN (.ref n) .non μ = .val (.bl true) μ := rfl
/-! products: both small, or by their bits -/
theorem mulOk_small (h1 : -(2 ^ 64) < i) (h2 : i < 2 ^ 64) (h3 : -(2 ^ 64) < j) (h4 : j < 2 ^ 64) : MulOk i j := by
  have a : i.natAbs < 2 ^ 64 := by omega
  have b : j.natAbs < 2 ^ 64 := by omega
  have l : ∀ n : Nat, n < 2 ^ 64 → n.log2 ≤ 64 := fun n h => by
    by_cases hz : n = 0
    · subst hz; decide
    · exact Nat.le_of_lt ((Nat.log2_lt hz).mpr h)
  have := l _ a
  have := l _ b
  unfold MulOk
  omega
theorem gMul_ok (h : MulOk i j) : gMul (.int i) (.int j) μ = .val (.int (i * j)) μ := by
  unfold gMul orG gMulI gIc
  simp only [if_pos h]
theorem gMul_small (h1 : -(2 ^ 64) < i) (h2 : i < 2 ^ 64) (h3 : -(2 ^ 64) < j) (h4 : j < 2 ^ 64) : gMul (.int i) (.int j) μ = .val (.int (i * j)) μ := gMul_ok (mulOk_small h1 h2 h3 h4)
/-- an int of not too many bits -/
def Big (i : Int) : Prop := i.natAbs.log2 ≤ 2000000
theorem big_mul (h1 : Big i) (h2 : Big j) : MulOk i j := by unfold MulOk; unfold Big at h1 h2; omega
theorem log2_lt_pow {n k : Nat} (h : n.log2 ≤ k) : n < 2 ^ (k + 1) := by
  by_cases hz : n = 0
  · subst hz; exact Nat.two_pow_pos _
  · exact (Nat.log2_lt hz).mp (Nat.lt_succ_of_le h)
theorem lt_pow_log2 {n k : Nat} (h : n < 2 ^ (k + 1)) : n.log2 ≤ k := by
  by_cases hz : n = 0
  · subst hz; simp
  · exact Nat.le_of_lt_succ ((Nat.log2_lt hz).mpr h)
theorem log2_add {x y : Int} {k : Nat} (h1 : x.natAbs.log2 ≤ k) (h2 : y.natAbs.log2 ≤ k) : (x + y).natAbs.log2 ≤ k + 1 := by
  have a := log2_lt_pow h1
  have b := log2_lt_pow h2
  refine lt_pow_log2 ?_
  have c : (x + y).natAbs ≤ x.natAbs + y.natAbs := Int.natAbs_add_le x y
  have e : (2 : Nat) ^ (k + 1 + 1) = 2 ^ (k + 1) * 2 := Nat.pow_succ 2 (k + 1)
  rw [e]
  omega
theorem log2_small {x : Int} (h1 : -(2 ^ 64) < x) (h2 : x < 2 ^ 64) : x.natAbs.log2 ≤ 64 := by
  refine Nat.le_trans (lt_pow_log2 (k := 63) (show x.natAbs < 2 ^ 64 by omega)) (by decide)
theorem intBits_log2 {x : Int} {k : Nat} (h : Builtin.Int.intBits x ≤ k) : x.natAbs.log2 ≤ k := by
  unfold Builtin.Int.intBits at h
  split at h
  · rename_i e
    have e : x = 0 := by simpa using e
    subst e; simp
  · omega
/-! quotients, rests -/
theorem gDiv_ok (h : DivOk i j) : gDiv (.int i) (.int j) μ = .val (.int (i / j)) μ := by
  unfold gDiv gIc
  simp only [if_pos h]
theorem gDiv_pos (h1 : 0 < j) (h2 : j < 2 ^ 64) : gDiv (.int i) (.int j) μ = .val (.int (i / j)) μ := gDiv_ok ⟨h1, by
  have := log2_small (x := j) (by omega) h2
  omega⟩
theorem gMod_pos (h : 0 < j) : gMod (.int i) (.int j) μ = .val (.int (i % j)) μ := by
  unfold gMod gIc
  simp only [if_pos h]
theorem gPow_ok (h1 : 0 ≤ j) (h2 : j ≤ 1000000) (h3 : -(2 ^ 63) < i) (h4 : i < 2 ^ 63) : gPow (.int i) (.int j) μ = .val (.int (i ^ j.toNat)) μ := by
  unfold gPow gIc
  simp only [if_pos (show 0 ≤ j ∧ j ≤ 1000000 ∧ i.natAbs < 2 ^ 64 from ⟨h1, h2, by omega⟩)]
/-! items -/
theorem gIx_lst {x : D} (h : atI xs i = some x) : gIx (.lst xs) (.int i) μ = .val x μ := by simp [gIx, h]
theorem gIx_tup {x : D} (h : atI xs i = some x) : gIx (.tup xs) (.int i) μ = .val x μ := by simp [gIx, h]
theorem gIx_scr {ns : List Int} {x : D} (h : atI (mapD D.int ns) i = some x) : gIx (.scr ns) (.int i) μ = .val x μ := by simp [gIx, h]
theorem gIx_ref {n : Nat} {x : D} (hm : μ[n]? = some (.lst xs)) (h : atI xs i = some x) : gIx (.ref n) (.int i) μ = .val x μ := by simp [gIx, hm, h]
@[simp] theorem gIx_tup0 {x : D} : gIx (.tup (x :: xs)) (.int 0) μ = .val x μ := gIx_tup (by exact atI_nat (xs := x :: xs) (j := 0) rfl)
@[simp] theorem gIx_tup1 {x y : D} : gIx (.tup (x :: y :: xs)) (.int 1) μ = .val y μ := gIx_tup (by exact atI_nat (xs := x :: y :: xs) (j := 1) rfl)
section
variable {α : Type} {f : α → D} {zs ws : List α} {z : α}
@[simp] theorem mapD_length : (mapD f zs).length = zs.length := List.length_map _
@[simp] theorem mapD_nil : mapD f [] = [] := rfl
theorem mapD_cons : mapD f (z :: zs) = f z :: mapD f zs := rfl
@[simp] theorem mapD_app : mapD f zs ++ mapD f ws = mapD f (zs ++ ws) := (List.map_append ..).symm
@[simp] theorem mapD_snoc : mapD f zs ++ [f z] = mapD f (zs ++ [z]) := by unfold mapD; rw [List.map_append]; rfl
theorem mapD_get {i : Nat} : (mapD f zs)[i]? = (zs[i]?).map f := List.getElem?_map ..
theorem mapD_mem {d : D} : d ∈ mapD f zs ↔ ∃ x ∈ zs, f x = d := List.mem_map
theorem mapD_nf (h : ∀ x, nf (f x) = true) : nfL (mapD f zs) = true := by induction zs with
  | nil => rfl
  | cons n r ih => rw [mapD_cons]; simp [ih, h]
theorem mapD_fz (h : ∀ x, fz μ (f x) = f x) : fzL μ (mapD f zs) = mapD f zs := by induction zs with
  | nil => rfl
  | cons n r ih => rw [mapD_cons]; simp [ih, h]
def cutL (xs : List α) (lo hi : Option Int) : List α := (xs.drop (HT.sIx xs.length 0 lo)).take (HT.sIx xs.length xs.length hi - HT.sIx xs.length 0 lo)
@[simp] theorem mapD_cut {lo hi : Option Int} : cutD (mapD f zs) lo hi = mapD f (cutL zs lo hi) := by
  unfold cutD cutL mapD
  rw [List.length_map, List.map_take, List.map_drop]
theorem cutL_fromI {k : Int} (h0 : 0 ≤ k) : cutL zs (some k) none = zs.drop k.toNat := by
  have e : ((k.toNat : Nat) : Int) = k := by omega
  unfold cutL
  rw [← e, HT.sIx_nat, HT.sIx_none]
  by_cases h : k.toNat ≤ zs.length
  · rw [Nat.min_eq_left h, List.take_of_length_le (by rw [List.length_drop]; omega)]; congr 1
  · rw [Nat.min_eq_right (by omega), Nat.sub_self, List.take_zero, List.drop_eq_nil_of_le (by omega)]
theorem atI_mapD {i : Int} : atI (mapD f zs) i = (atI zs i).map f := by
  unfold atI
  rw [mapD_length]
  cases ixN zs.length i with
  | none => rfl
  | some j => exact mapD_get
theorem atI_in {k : Int} [Inhabited α] (h0 : 0 ≤ k) (h1 : k < zs.length) : atI zs k = some (zs.getD k.toNat default) := by
  have hk : k.toNat < zs.length := by omega
  have e : zs[k.toNat]? = some (zs.getD k.toNat default) := by rw [List.getD_eq_getElem?_getD, List.getElem?_eq_getElem hk]; rfl
  have := atI_nat e
  rw [show ((k.toNat : Nat) : Int) = k by omega] at this
  exact this
theorem atI_last' [Inhabited α] (h : zs ≠ []) : atI zs (-1) = some (zs.getD (zs.length - 1) default) := by
  have hl : 0 < zs.length := List.length_pos_iff.mpr h
  have hk : zs.length - 1 < zs.length := by omega
  unfold atI ixN
  rw [if_neg (by decide), if_pos (by omega)]
  have e : (-1 + (zs.length : Int)).toNat = zs.length - 1 := by omega
  show (some ((-1 + (zs.length : Int)).toNat)).bind _ = _
  rw [e]
  show zs[zs.length - 1]? = _
  rw [List.getD_eq_getElem?_getD, List.getElem?_eq_getElem hk]; rfl
end
/-- an item, by a name that simp leaves alone -/
def nth (ns : List Int) (k : Nat) : Int := ns.getD k 0
theorem atI_map {f : Int → D} {ns : List Int} {k : Int} (h0 : 0 ≤ k) (h1 : k < ns.length) : atI (mapD f ns) k = some (f (nth ns k.toNat)) := by rw [atI_mapD, atI_in h0 h1]; rfl
theorem atI_neg {f : Int → D} {ns : List Int} (h : ns ≠ []) : atI (mapD f ns) (-1) = some (f (nth ns (ns.length - 1))) := by rw [atI_mapD, atI_last' h]; rfl
theorem nth_eq {ns : List Int} {k : Nat} (h : k < ns.length) : nth ns k = ns[k] := by unfold nth; rw [List.getD_eq_getElem?_getD, List.getElem?_eq_getElem h]; rfl
/-! lists of ints -/
@[simp] theorem nfL_ints (ns : List Int) : nfL (mapD D.int ns) = true := mapD_nf fun _ => by simp
@[simp] theorem fzL_ints (ns : List Int) : fzL μ (mapD D.int ns) = mapD D.int ns := mapD_fz fun _ => by simp
@[simp] theorem toPyL_ints (ns : List Int) : toPyL (mapD D.int ns) = some (ns.map PyData.int) := by induction ns with
  | nil => rfl
  | cons n r ih => rw [mapD_cons]; simp [ih]
@[simp] theorem lay_ints (ns : List Int) : PyData.canLayAll0 (ns.map PyData.int) = true := by induction ns with
  | nil => simp [PyData.canLayAll0]
  | cons n r ih => simp [PyData.canLayAll0, PyData.canLay0, ih]
@[simp] theorem depth_ints (ns : List Int) : PyData.depthAll (ns.map PyData.int) = 0 := by induction ns with
  | nil => simp [PyData.depthAll]
  | cons n r ih => simp [PyData.depthAll, PyData.depth, ih]
@[simp] theorem eqv_ints (ns ms : List Int) : PyData.eqvAll (ns.map PyData.int) (ms.map PyData.int) = decide (ns = ms) := by
  induction ns generalizing ms with
  | nil => cases ms <;> simp [PyData.eqvAll]
  | cons n r ih =>
    cases ms with
    | nil => simp [PyData.eqvAll]
    | cons m t => simp [PyData.eqvAll, PyData.eqv, ih, Bool.beq_eq_decide_eq]
@[simp] theorem shaped_eq (p : PyData) : SeqAt.shaped p = (p.canLay0 && decide (p.depth ≤ 64)) := rfl
section
variable {i j : Int} {b c : Bool} {x y : Str} {ps qs : List PyData} {p q : PyData}
@[simp] theorem lay_none : PyData.canLay0 .none = true := by simp only [PyData.canLay0]
@[simp] theorem lay_bool : PyData.canLay0 (.bool b) = true := by simp only [PyData.canLay0]
@[simp] theorem lay_int : PyData.canLay0 (.int i) = true := by simp only [PyData.canLay0]
@[simp] theorem lay_str : PyData.canLay0 (.str x) = PyData.strOk x := by simp only [PyData.canLay0]
@[simp] theorem lay_list : PyData.canLay0 (.list ps) = PyData.canLayAll0 ps := by simp only [PyData.canLay0]
@[simp] theorem lay_tuple : PyData.canLay0 (.tuple ps) = PyData.canLayAll0 ps := by simp only [PyData.canLay0]
@[simp] theorem lay_nil : PyData.canLayAll0 [] = true := by simp only [PyData.canLayAll0]
@[simp] theorem lay_cons : PyData.canLayAll0 (p :: ps) = (p.canLay0 && PyData.canLayAll0 ps) := by simp only [PyData.canLayAll0]
@[simp] theorem dep_none : PyData.depth .none = 0 := by simp only [PyData.depth]
@[simp] theorem dep_bool : PyData.depth (.bool b) = 0 := by simp only [PyData.depth]
@[simp] theorem dep_int : PyData.depth (.int i) = 0 := by simp only [PyData.depth]
@[simp] theorem dep_str : PyData.depth (.str x) = 0 := by simp only [PyData.depth]
@[simp] theorem dep_list : PyData.depth (.list ps) = PyData.depthAll ps + 1 := by simp only [PyData.depth]
@[simp] theorem dep_tuple : PyData.depth (.tuple ps) = PyData.depthAll ps + 1 := by simp only [PyData.depth]
@[simp] theorem dep_nil : PyData.depthAll [] = 0 := by simp only [PyData.depthAll]
@[simp] theorem dep_cons : PyData.depthAll (p :: ps) = max p.depth (PyData.depthAll ps) := by simp only [PyData.depthAll]
@[simp] theorem eqv_nn : PyData.eqv .none .none = true := by simp only [PyData.eqv]
@[simp] theorem eqv_bb : PyData.eqv (.bool b) (.bool c) = (b == c) := by simp only [PyData.eqv]
@[simp] theorem eqv_ii : PyData.eqv (.int i) (.int j) = decide (i = j) := by simp only [PyData.eqv, Bool.beq_eq_decide_eq]
@[simp] theorem eqv_ss : PyData.eqv (.str x) (.str y) = (x == y) := by simp only [PyData.eqv]
@[simp] theorem eqv_ll : PyData.eqv (.list ps) (.list qs) = PyData.eqvAll ps qs := by simp only [PyData.eqv]
@[simp] theorem eqv_tt : PyData.eqv (.tuple ps) (.tuple qs) = PyData.eqvAll ps qs := by simp only [PyData.eqv]
@[simp] theorem eqv_ni : PyData.eqv .none (.int j) = false := by simp only [PyData.eqv]
@[simp] theorem eqv_in : PyData.eqv (.int i) .none = false := by simp only [PyData.eqv]
@[simp] theorem eqv_nt : PyData.eqv .none (.tuple qs) = false := by simp only [PyData.eqv]
@[simp] theorem eqv_tn : PyData.eqv (.tuple qs) .none = false := by simp only [PyData.eqv]
@[simp] theorem eqv_00 : PyData.eqvAll [] [] = true := by simp only [PyData.eqvAll]
@[simp] theorem eqv_0c : PyData.eqvAll [] (p :: ps) = false := by simp only [PyData.eqvAll]
@[simp] theorem eqv_c0 : PyData.eqvAll (p :: ps) [] = false := by simp only [PyData.eqvAll]
@[simp] theorem eqv_cc : PyData.eqvAll (p :: ps) (q :: qs) = (PyData.eqv p q && PyData.eqvAll ps qs) := by simp only [PyData.eqvAll]
end
end
theorem runF_ret {n : Nat} {b : SF} {ds : List D} {μ μ' : Mu} {d : D} (h : b (ds.map some ++ List.replicate (n - ds.length) none) μ = .ret d μ') : runF n b ds μ = .val d μ' := by unfold runF; rw [h]
@[simp] theorem forL_nil (g : GT) (b : SF) (ρ : Ro) (μ : Mu) : forL g b [] ρ μ = .nx ρ μ := rfl
theorem forL_cons (g : GT) (b : SF) (d : D) (ds : List D) (ρ : Ro) (μ : Mu) : forL g b (d :: ds) ρ μ = match g d ρ μ with
    | none => .fail
    | some p => match b p.1 p.2 with
      | .nx ρ2 μ2 => forL g b ds ρ2 μ2
      | .ct ρ2 μ2 => forL g b ds ρ2 μ2
      | .bk ρ2 μ2 => .nx ρ2 μ2
      | .ret d μ2 => .ret d μ2
      | .exc x ρ2 μ2 => .exc x ρ2 μ2
      | .fail => .fail := rfl
@[simp] theorem compL_nil (g : GT) (tt : TF) (te : EF) (ρ : Ro) (μ : Mu) (acc : List D) : compL g tt te ρ [] μ acc = .val acc μ := rfl
theorem compL_cons (g : GT) (tt : TF) (te : EF) (ρ : Ro) (d : D) (ds : List D) (μ : Mu) (acc : List D) : compL g tt te ρ (d :: ds) μ acc = match g d ρ μ with
    | none => .fail
    | some p => match tt p.1 p.2 with
      | .val true μ3 => (match te p.1 μ3 with
        | .val y μ4 => compL g tt te ρ ds μ4 (acc ++ [y])
        | _ => .fail)
      | .val false μ3 => compL g tt te ρ ds μ3 acc
      | _ => .fail := rfl
/-! loops by an invariant -/
def turn (g : GT) (b : SF) (d : D) (ρ : Ro) (μ : Mu) : Out := match g d ρ μ with
  | none => .fail
  | some p => b p.1 p.2
@[simp] theorem turn_n (i : Nat) (b : SF) (d : D) (ρ : Ro) (μ : Mu) : turn (gN i) b d ρ μ = b (ρ.set i (some d)) μ := rfl
theorem forL_turn (g : GT) (b : SF) (d : D) (ds : List D) (ρ : Ro) (μ : Mu) : forL g b (d :: ds) ρ μ = match turn g b d ρ μ with
      | .nx ρ2 μ2 => forL g b ds ρ2 μ2
      | .ct ρ2 μ2 => forL g b ds ρ2 μ2
      | .bk ρ2 μ2 => .nx ρ2 μ2
      | .ret d μ2 => .ret d μ2
      | .exc x ρ2 μ2 => .exc x ρ2 μ2
      | .fail => .fail := by
  rw [forL_cons]
  unfold turn
  cases g d ρ μ <;> rfl
/-- how a turn ends: on (N), out of the loop (B), out of the def (R) -/
def Ends3 (N B : Ro → Mu → Prop) (R : D → Mu → Prop) : Out → Prop
  | .nx ρ μ => N ρ μ
  | .ct ρ μ => N ρ μ
  | .bk ρ μ => B ρ μ
  | .ret d μ => R d μ
  | _ => False
def LoopEnds (N : Ro → Mu → Prop) (R : D → Mu → Prop) : Out → Prop
  | .nx ρ μ => N ρ μ
  | .ret d μ => R d μ
  | _ => False
theorem forL_ends {g : GT} {b : SF} {B : Ro → Mu → Prop} {R : D → Mu → Prop} : ∀ {ds : List D} (I : Nat → Ro → Mu → Prop) {ρ : Ro} {μ : Mu}, I 0 ρ μ →
    (∀ (i : Nat) (d : D) (ρ : Ro) (μ : Mu), ds[i]? = some d → I i ρ μ → Ends3 (I (i + 1)) B R (turn g b d ρ μ)) → LoopEnds (fun ρ μ => I ds.length ρ μ ∨ B ρ μ) R (forL g b ds ρ μ)
  | [], I, ρ, μ, h0, _ => .inl h0
  | d :: ds, I, ρ, μ, h0, hs => by
    have h1 := hs 0 d ρ μ rfl h0
    rw [forL_turn]
    cases e : turn g b d ρ μ with
    | nx ρ2 μ2 => rw [e] at h1; exact forL_ends (fun i => I (i + 1)) h1 fun i d' ρ μ hd hi => hs (i + 1) d' ρ μ hd hi
    | ct ρ2 μ2 => rw [e] at h1; exact forL_ends (fun i => I (i + 1)) h1 fun i d' ρ μ hd hi => hs (i + 1) d' ρ μ hd hi
    | bk ρ2 μ2 => rw [e] at h1; exact .inr h1
    | ret d2 μ2 => rw [e] at h1; exact h1
    | exc x ρ2 μ2 => rw [e] at h1; exact h1.elim
    | fail => rw [e] at h1; exact h1.elim
/-- every turn goes on -/
theorem forL_nx {g : GT} {b : SF} {ds : List D} (I : Nat → Ro → Mu → Prop) {ρ : Ro} {μ : Mu} (h0 : I 0 ρ μ) (hs : ∀ (i : Nat) (d : D) (ρ : Ro) (μ : Mu), ds[i]? = some d → I i ρ μ → ∃ ρ' μ', turn g b d ρ μ = .nx ρ' μ' ∧ I (i + 1) ρ' μ') :
    ∃ ρ' μ', forL g b ds ρ μ = .nx ρ' μ' ∧ I ds.length ρ' μ' := by
  have h := forL_ends (g := g) (b := b) (B := fun _ _ => False) (R := fun _ _ => False) I h0 fun i d ρ μ hd hi => by
    obtain ⟨ρ', μ', e, k⟩ := hs i d ρ μ hd hi
    rw [e]; exact k
  cases e : forL g b ds ρ μ with
  | nx ρ' μ' => rw [e] at h; exact ⟨ρ', μ', rfl, h.resolve_right id⟩
  | _ => rw [e] at h; exact h.elim
theorem rng_get {lo : Int} {n i : Nat} {d : D} (h : ((List.range n).map fun i : Nat => D.int (lo + (i : Int)))[i]? = some d) : d = .int (lo + (i : Int)) ∧ i < n := by
  rw [List.getElem?_map] at h
  cases e : (List.range n)[i]? with
  | none => rw [e] at h; cases h
  | some j =>
    rw [e] at h
    cases h
    obtain ⟨h1, h2⟩ := List.getElem?_eq_some_iff.mp e
    rw [List.getElem_range] at h2
    subst h2
    rw [List.length_range] at h1
    exact ⟨rfl, h1⟩
theorem rng_len {lo : Int} {n : Nat} : ((List.range n).map fun i : Nat => D.int (lo + (i : Int))).length = n := by rw [List.length_map, List.length_range]
/-- over range(n), every turn goes on -/
theorem forR_nx {s : Nat} {b : SF} {lo : Int} {n : Nat} (I : Nat → Ro → Mu → Prop) {ρ : Ro} {μ : Mu} (h0 : I 0 ρ μ) (hs : ∀ (i : Nat) (ρ : Ro) (μ : Mu), i < n → I i ρ μ → ∃ ρ' μ', b (ρ.set s (some (.int (lo + (i : Int))))) μ = .nx ρ' μ' ∧ I (i + 1) ρ' μ') :
    ∃ ρ' μ', forL (gN s) b ((List.range n).map fun i : Nat => D.int (lo + (i : Int))) ρ μ = .nx ρ' μ' ∧ I n ρ' μ' := by
  have h := forL_nx (g := gN s) (b := b) (ds := (List.range n).map fun i : Nat => D.int (lo + (i : Int))) I h0 fun i d ρ μ hd hi => by
    obtain ⟨rfl, hn⟩ := rng_get hd
    exact hs i ρ μ hn hi
  rw [rng_len] at h
  exact h
theorem forR_ends {s : Nat} {b : SF} {lo : Int} {n : Nat} {B : Ro → Mu → Prop} {R : D → Mu → Prop} (I : Nat → Ro → Mu → Prop) {ρ : Ro} {μ : Mu} (h0 : I 0 ρ μ) (hs : ∀ (i : Nat) (ρ : Ro) (μ : Mu), i < n → I i ρ μ → Ends3 (I (i + 1)) B R (b (ρ.set s (some (.int (lo + (i : Int))))) μ)) :
    LoopEnds (fun ρ μ => I n ρ μ ∨ B ρ μ) R (forL (gN s) b ((List.range n).map fun i : Nat => D.int (lo + (i : Int))) ρ μ) := by
  have h := forL_ends (g := gN s) (b := b) (ds := (List.range n).map fun i : Nat => D.int (lo + (i : Int))) (B := B) (R := R) I h0 fun i d ρ μ hd hi => by
    obtain ⟨rfl, hn⟩ := rng_get hd
    exact hs i ρ μ hn hi
  rw [rng_len] at h
  exact h
/-- a turn goes on -/
def Goes (N : Ro → Mu → Prop) : Out → Prop
  | .nx ρ μ => N ρ μ
  | .ct ρ μ => N ρ μ
  | _ => False
@[simp] theorem goes_nx {N : Ro → Mu → Prop} {ρ : Ro} {μ : Mu} : Goes N (.nx ρ μ) = N ρ μ := rfl
@[simp] theorem goes_ct {N : Ro → Mu → Prop} {ρ : Ro} {μ : Mu} : Goes N (.ct ρ μ) = N ρ μ := rfl
@[simp] theorem ends3_nx {N B : Ro → Mu → Prop} {R : D → Mu → Prop} {ρ : Ro} {μ : Mu} : Ends3 N B R (.nx ρ μ) = N ρ μ := rfl
@[simp] theorem ends3_ct {N B : Ro → Mu → Prop} {R : D → Mu → Prop} {ρ : Ro} {μ : Mu} : Ends3 N B R (.ct ρ μ) = N ρ μ := rfl
@[simp] theorem ends3_bk {N B : Ro → Mu → Prop} {R : D → Mu → Prop} {ρ : Ro} {μ : Mu} : Ends3 N B R (.bk ρ μ) = B ρ μ := rfl
@[simp] theorem ends3_ret {N B : Ro → Mu → Prop} {R : D → Mu → Prop} {d : D} {μ : Mu} : Ends3 N B R (.ret d μ) = R d μ := rfl
theorem forL_go {g : GT} {b : SF} {ds : List D} (I : Nat → Ro → Mu → Prop) {ρ : Ro} {μ : Mu} (h0 : I 0 ρ μ) (hs : ∀ (i : Nat) (d : D) (ρ : Ro) (μ : Mu), ds[i]? = some d → I i ρ μ → Goes (I (i + 1)) (turn g b d ρ μ)) :
    ∃ ρ' μ', forL g b ds ρ μ = .nx ρ' μ' ∧ I ds.length ρ' μ' := by
  have h := forL_ends (g := g) (b := b) (B := fun _ _ => False) (R := fun _ _ => False) I h0 fun i d ρ μ hd hi => by
    have k := hs i d ρ μ hd hi
    cases e : turn g b d ρ μ <;> rw [e] at k <;> exact k
  cases e : forL g b ds ρ μ with
  | nx ρ' μ' => rw [e] at h; exact ⟨ρ', μ', rfl, h.resolve_right id⟩
  | _ => rw [e] at h; exact h.elim
theorem forR_go {s : Nat} {b : SF} {lo : Int} {n : Nat} (I : Nat → Ro → Mu → Prop) {ρ : Ro} {μ : Mu} (h0 : I 0 ρ μ) (hs : ∀ (i : Nat) (ρ : Ro) (μ : Mu), i < n → I i ρ μ → Goes (I (i + 1)) (b (ρ.set s (some (.int (lo + (i : Int))))) μ)) :
    ∃ ρ' μ', forL (gN s) b ((List.range n).map fun i : Nat => D.int (lo + (i : Int))) ρ μ = .nx ρ' μ' ∧ I n ρ' μ' := by
  have h := forL_go (g := gN s) (b := b) (ds := (List.range n).map fun i : Nat => D.int (lo + (i : Int))) I h0 fun i d ρ μ hd hi => by
    obtain ⟨rfl, hn⟩ := rng_get hd
    exact hs i ρ μ hn hi
  rw [rng_len] at h
  exact h
/-- a def's answer -/
def Yes (P : D → Mu → Prop) : Res D → Prop
  | .val d μ => P d μ
  | _ => False
@[simp] theorem yes_val {P : D → Mu → Prop} {d : D} {μ : Mu} : Yes P (.val d μ) = P d μ := rfl
theorem Yes.get {P : D → Mu → Prop} {r : Res D} (h : Yes P r) : ∃ d μ, r = .val d μ ∧ P d μ := by
  cases r with
  | val d μ => exact ⟨d, μ, rfl, h⟩
  | _ => exact h.elim
/-! comprehensions as map and filter -/
theorem compN_map {s : Nat} {te : EF} {ρ : Ro} {μ : Mu} {f : D → D} : ∀ {ds : List D} {acc : List D}, (∀ d ∈ ds, te (ρ.set s (some d)) μ = .val (f d) μ) → compL (gN s) tfYes te ρ ds μ acc = .val (acc ++ ds.map f) μ
  | [], acc, _ => by simp
  | d :: ds, acc, h => by
    rw [compL_cons]
    have h1 := h d List.mem_cons_self
    have ih := compN_map (s := s) (te := te) (ρ := ρ) (μ := μ) (f := f) (ds := ds) (acc := acc ++ [f d]) fun d m => h d (List.mem_cons_of_mem _ m)
    simp [h1, ih]
theorem compN_filter {s : Nat} {tt : TF} {te : EF} {ρ : Ro} {μ : Mu} {f : D → D} {q : D → Bool} : ∀ {ds : List D} {acc : List D}, (∀ d ∈ ds, tt (ρ.set s (some d)) μ = .val (q d) μ) → (∀ d ∈ ds, q d = true → te (ρ.set s (some d)) μ = .val (f d) μ) →
    compL (gN s) tt te ρ ds μ acc = .val (acc ++ (ds.filter q).map f) μ
  | [], acc, _, _ => by simp
  | d :: ds, acc, h1, h2 => by
    rw [compL_cons]
    have g1 := h1 d List.mem_cons_self
    cases e : q d with
    | true =>
      have g2 := h2 d List.mem_cons_self e
      have ih := compN_filter (s := s) (tt := tt) (te := te) (ρ := ρ) (μ := μ) (f := f) (q := q) (ds := ds) (acc := acc ++ [f d]) (fun d m => h1 d (List.mem_cons_of_mem _ m)) fun d m => h2 d (List.mem_cons_of_mem _ m)
      simp [g1, e, g2, ih]
    | false =>
      have ih := compN_filter (s := s) (tt := tt) (te := te) (ρ := ρ) (μ := μ) (f := f) (q := q) (ds := ds) (acc := acc) (fun d m => h1 d (List.mem_cons_of_mem _ m)) fun d m => h2 d (List.mem_cons_of_mem _ m)
      simp [g1, e, ih]
theorem blsOf_mapD {α : Type} (q : α → Bool) (xs : List α) : blsOf (mapD (fun x => D.bl (q x)) xs) = some (xs.map q) := by
  induction xs with
  | nil => rfl
  | cons x r ih => rw [mapD_cons]; simp [ih]
theorem compN_mapD {α : Type} {s : Nat} {te : EF} {ρ : Ro} {μ : Mu} {f h : α → D} : ∀ {xs : List α} {acc : List D}, (∀ x ∈ xs, te (ρ.set s (some (f x))) μ = .val (h x) μ) → compL (gN s) tfYes te ρ (mapD f xs) μ acc = .val (acc ++ mapD h xs) μ
  | [], acc, _ => by simp
  | d :: ds, acc, k => by
    rw [mapD_cons, compL_cons]
    have h1 := k d List.mem_cons_self
    have ih := compN_mapD (s := s) (te := te) (ρ := ρ) (μ := μ) (f := f) (h := h) (xs := ds) (acc := acc ++ [h d]) fun d m => k d (List.mem_cons_of_mem _ m)
    simp [h1, ih, mapD_cons]
theorem compN_filterD {α : Type} {s : Nat} {tt : TF} {te : EF} {ρ : Ro} {μ : Mu} {f h : α → D} {q : α → Bool} : ∀ {xs : List α} {acc : List D}, (∀ x ∈ xs, tt (ρ.set s (some (f x))) μ = .val (q x) μ) → (∀ x ∈ xs, q x = true → te (ρ.set s (some (f x))) μ = .val (h x) μ) →
    compL (gN s) tt te ρ (mapD f xs) μ acc = .val (acc ++ mapD h (xs.filter q)) μ
  | [], acc, _, _ => by simp
  | d :: ds, acc, h1, h2 => by
    rw [mapD_cons, compL_cons]
    have g1 := h1 d List.mem_cons_self
    cases e : q d with
    | true =>
      have g2 := h2 d List.mem_cons_self e
      have ih := compN_filterD (s := s) (tt := tt) (te := te) (ρ := ρ) (μ := μ) (f := f) (h := h) (q := q) (xs := ds) (acc := acc ++ [h d]) (fun d m => h1 d (List.mem_cons_of_mem _ m)) fun d m => h2 d (List.mem_cons_of_mem _ m)
      simp [g1, e, g2, ih, mapD_cons]
    | false =>
      have ih := compN_filterD (s := s) (tt := tt) (te := te) (ρ := ρ) (μ := μ) (f := f) (h := h) (q := q) (xs := ds) (acc := acc) (fun d m => h1 d (List.mem_cons_of_mem _ m)) fun d m => h2 d (List.mem_cons_of_mem _ m)
      simp [g1, e, ih]
/-- a loop that appends -/
theorem forL_app {U : Type} {g : GT} {b : SF} {mk : U → Ro} {μs : List D → Mu} {f : D → D} : ∀ {ds : List D} {u : U} {acc : List D}, acc.length + ds.length ≤ 100000 →
    (∀ d ∈ ds, ∀ (u : U) (acc : List D), acc.length < 100000 → ∃ u', turn g b d (mk u) (μs acc) = .nx (mk u') (μs (acc ++ [f d]))) → ∃ u', forL g b ds (mk u) (μs acc) = .nx (mk u') (μs (acc ++ ds.map f))
  | [], u, acc, _, _ => ⟨u, by simp⟩
  | d :: ds, u, acc, hz, h => by
    rw [List.length_cons] at hz
    obtain ⟨u1, e1⟩ := h d List.mem_cons_self u acc (by omega)
    obtain ⟨u2, e2⟩ := forL_app (g := g) (b := b) (mk := mk) (μs := μs) (f := f) (ds := ds) (u := u1) (acc := acc ++ [f d]) (by rw [List.length_append]; simp; omega) fun d m => h d (List.mem_cons_of_mem _ m)
    refine ⟨u2, ?_⟩
    rw [forL_turn, e1]
    simp only [e2]
    simp
theorem forL_appD {α U : Type} {g : GT} {b : SF} {mk : U → Ro} {μs : List D → Mu} {f h : α → D} : ∀ {xs : List α} {u : U} {acc : List D}, acc.length + xs.length ≤ 100000 →
    (∀ x ∈ xs, ∀ (u : U) (acc : List D), acc.length < 100000 → ∃ u', turn g b (f x) (mk u) (μs acc) = .nx (mk u') (μs (acc ++ [h x]))) → ∃ u', forL g b (mapD f xs) (mk u) (μs acc) = .nx (mk u') (μs (acc ++ mapD h xs))
  | [], u, acc, _, _ => ⟨u, by simp⟩
  | d :: ds, u, acc, hz, k => by
    rw [List.length_cons] at hz
    obtain ⟨u1, e1⟩ := k d List.mem_cons_self u acc (by omega)
    obtain ⟨u2, e2⟩ := forL_appD (g := g) (b := b) (mk := mk) (μs := μs) (f := f) (h := h) (xs := ds) (u := u1) (acc := acc ++ [h d]) (by rw [List.length_append]; simp; omega) fun d m => k d (List.mem_cons_of_mem _ m)
    refine ⟨u2, ?_⟩
    rw [mapD_cons, forL_turn, e1]
    simp only [e2]
    simp [mapD_cons]
end Dn

/-! Dn7: t[::-1] of a tuple, of a list. -/
namespace Dn
open PySem PySem.Spec PyProof.Rows L2
section
variable {prog : Program} {w : World} {A : Around} {E : Value → Shared → Prop} {s : Shared}
theorem pick_rev (xs : Array Value) (n : Nat) (h : n = xs.size) : ((List.range n).filterMap fun (m : Nat) => xs[((n : Int) - 1 + (m : Int) * -1).toNat]?).toArray = xs.toList.reverse.toArray := by
  subst h
  congr 1
  have key : ∀ k : Nat, k ≤ xs.size → (List.range k).filterMap (fun (m : Nat) => xs[((xs.size : Int) - 1 + (m : Int) * -1).toNat]?) = xs.toList.reverse.take k := by
    intro k
    induction k with
    | zero => intro _; rfl
    | succ k ih =>
      intro hk
      rw [List.range_succ, List.filterMap_append, ih (by omega)]
      have hlt : k < xs.toList.reverse.length := by rw [List.length_reverse, Array.length_toList]; omega
      rw [List.take_succ, List.getElem?_eq_getElem hlt, List.getElem_reverse]
      have e2 : ((xs.size : Int) - 1 + (k : Int) * -1).toNat = xs.size - 1 - k := by omega
      have e3 : xs[xs.size - 1 - k]? = some (xs.toList[xs.toList.length - 1 - k]'(by rw [Array.length_toList]; omega)) := by
        rw [Array.getElem?_eq_getElem (by omega)]
        simp
      simp only [List.filterMap_cons, List.filterMap_nil, e2, e3]
      rfl
  rw [key xs.size (Nat.le_refl _), List.take_of_length_le (by rw [List.length_reverse, Array.length_toList]; exact Nat.le_refl _)]
theorem sliceApplied_rev {sl : Addr} {vl vu vs : Value} {n : Nat} {Q : Int × Int × Nat → Shared → Prop} (hs : s.heap.IsSliceOf sl vl vu vs) (pl : IsPart vl none) (pu : IsPart vu none) (pk : IsPart vs (some (-1)))
    (h : Q ((n : Int) - 1, -1, n) s) : wpAny (model prog w) A (Builtin.Slice.sliceApplied (.ref sl) (pure (n : Int))) Q E s := by
  obtain ⟨os, hos, hcs, hds⟩ := id hs
  unfold Builtin.Slice.sliceApplied Builtin.Slice.sliceFields
  refine wpAny_bind (wpAny_bind (wpAny_field hos hds (x := vl) rfl (wpAny_bind (wpAny_field hos hds (x := vu) rfl (wpAny_bind (wpAny_field hos hds (x := vs) rfl (wpAny_pure ?_)))))))
  refine wpAny_bind (HT.slicePart_ pk ?_)
  show wpAny _ _ (if ((-1 : Int) == 0) = true then _ else _) _ _ s
  rw [if_neg (by decide)]
  refine wpAny_bind (HT.slicePart_ pl (wpAny_bind (HT.slicePart_ pu (wpAny_bind (wpAny_pure ?_)))))
  show wpAny _ _ (match Builtin.Slice.sliceAdjust none none (-1) (n : Int) with | (lo, hi) => pure (lo, (-1 : Int), Builtin.Slice.slicePlaces lo hi (-1))) _ _ s
  have e : Builtin.Slice.sliceAdjust none none (-1) (n : Int) = ((n : Int) - 1, -1) := by
    unfold Builtin.Slice.sliceAdjust
    simp
  rw [e]
  show wpAny _ _ (pure ((n : Int) - 1, (-1 : Int), Builtin.Slice.slicePlaces ((n : Int) - 1) (-1) (-1))) _ _ s
  have e2 : Builtin.Slice.slicePlaces ((n : Int) - 1) (-1) (-1) = n := by
    unfold Builtin.Slice.slicePlaces
    simp
    split <;> omega
  rw [e2]
  exact wpAny_pure h
theorem getItem_tuple_rev {t sl : Addr} {items : Array Value} {vl vu vs : Value} {Q : Value → Shared → Prop} (ht : IsTup s.heap t items) (hs : s.heap.IsSliceOf sl vl vu vs) (pl : IsPart vl none) (pu : IsPart vu none) (pk : IsPart vs (some (-1)))
    (h : Q (.ref s.heap.objs.size) { s with heap := s.heap.push { cls := .type "tuple", data := .seq items.toList.reverse.toArray } })
    (hsz : items.size ≤ sizeLine) : wpAny (model prog w) A (getItem (.ref t) (.ref sl)) Q E s := by
  have htake : sizeOk (.seq items.toList.reverse.toArray) := by
    show items.toList.reverse.toArray.size ≤ sizeLine
    rw [List.size_toArray, List.length_reverse, Array.length_toList]
    exact hsz
  obtain ⟨os, hos, hcs, hds⟩ := id hs
  have hTs : s.TypeIs (.ref sl) "slice" := ⟨os, hos, hcs⟩
  unfold getItem
  try with_reducible refine wpAny_holding ?_
  first | refine wpAny_bind (wpAny_pure ?_) | skip
  refine wpAny_bind (wpAny_sequenceKey ht.typeIs (by decide) ?_)
  refine wpAny_bind (wpAny_callSpecial?_slot (name := Str.ofString "__getitem__") ht.typeIs PyProof.Rows.slot_tuple_getitem
    (wpAny_call_entry PyProof.Rows.slot_tuple_getitem ht.typeIs entry_tuple_getitem ?_ (args_tuple_getitem _ _)))
  show wpAny _ _ (Builtin.Tuple.tupleItemsOf (.ref t) >>= _) _ _ s
  refine wpAny_bind (tupleItemsOf_ ht ?_)
  refine wpAny_bind (wpAny_typeOf hTs ?_)
  rw [if_pos (by decide)]
  refine wpAny_bind (sliceApplied_rev hs pl pu pk ?_)
  have hno : ¬ ((((items.size : Int) - 1) == 0 && (-1 : Int) == 1 && items.size == items.size) = true) := by
    intro q
    rw [Bool.and_eq_true, Bool.and_eq_true] at q
    exact absurd q.1.2 (by decide)
  show wpAny _ _ (if (((items.size : Int) - 1) == 0 && (-1 : Int) == 1 && items.size == items.size) = true then _ else _) _ _ s
  rw [if_neg hno, pick_rev items items.size rfl]
  first
    | exact wpAny_bind (m := Builtin.Tuple.tupleExact _) (wpAny_newObj_type (wpAny_pure ⟨_, rfl, wpAny_pure h⟩) htake)
    | exact wpAny_bind (m := Builtin.Tuple.tupleExact _) (wpAny_newObj_type (wpAny_bind (wpAny_pure (wpAny_pure ⟨_, rfl, wpAny_pure h⟩))) htake)
    | exact wpAny_bind (wpAny_bind (m := Builtin.Tuple.tupleExact _) (wpAny_newObj_type (wpAny_pure (wpAny_pure ⟨_, rfl, wpAny_pure h⟩)) htake))
    | exact wpAny_bind (wpAny_bind (m := Builtin.Tuple.tupleExact _) (wpAny_newObj_type (wpAny_pure ⟨_, rfl, wpAny_pure h⟩) htake))
end
section
variable {X : Cx}
def tRevT (K : PySem.W.Frag) (te : TE) : TE := fun σ H Q => te σ H fun x H1 => ∃ a xs, x = .ref a ∧ SqT K H1 a xs ∧ ∀ p, H1 p = none → Q (.ref p) (upd H1 p (.tup xs.reverse))
theorem pe_revT {e : Expr} {te : TE} {k : Nat} {p1 p2 p3 pos : Pos} (he : PE X e te) : PE X (.Subscript e (.Slice none none (some (.UnaryOp .USub (.Constant (.int 1) k p1) p2)) p3) pos) (tRevT X.K te) := by
  refine ⟨fun pins s σ H Q I h => ?_⟩
  refine Subscript_ (thn (he.run pins s σ H _ I h) fun v s1 ⟨x, H1, I1, r1, q1⟩ => ?_)
  obtain ⟨a, xs, ex, hx, q⟩ := q1
  subst ex
  cases r1
  have hst : PO X (some (.UnaryOp .USub (.Constant (.int 1) k p1) p2)) (tPart (tUn (rU fun i => .int (-i)) (tC (.int 1)))) := po_some (pe_un un_neg pe_int)
  refine wpAny_Slice (thn (po_none.run pins s1 σ H1 (fun o H2 => o = none ∧ H2 = H1) I1 ⟨rfl, rfl⟩) fun vl s2 ⟨l, H2, I2, pl, el, e2⟩ => ?_)
  subst el e2
  refine thn (po_none.run pins s2 σ H2 (fun o H3 => o = none ∧ H3 = H2) I2 ⟨rfl, rfl⟩) fun vu s3 ⟨u, H3, I3, pu, eu, e3⟩ => ?_
  subst eu e3
  refine thn (hst.run pins s3 σ H3 (fun o H4 => o = some (-1) ∧ H4 = H3) I3 ⟨1, rfl, -1, rfl, rfl, rfl⟩) fun vs s4 ⟨o, H4, I4, ps, eo, e4⟩ => ?_
  subst eo e4
  have I5 : Inv X pins σ H4 { s4 with heap := s4.heap.push { cls := .type "slice", data := .fields #[vl, vu, vs] } } := I4.kept (t' := s4.toks) fun b ob q => Heap.get?_push_of_some _ q
  obtain ⟨its, r, ht, hz⟩ := I5.tuple hx
  have hlen := r.length
  show wpAny (model X.prog X.w) X.A (subscriptTail e (.Slice none none (some (.UnaryOp .USub (.Constant (.int 1) k p1) p2)) p3) (.ref a) (.ref s4.heap.objs.size)) (EP X pins σ Q) X.xe { s4 with heap := s4.heap.push { cls := .type "slice", data := .fields #[vl, vu, vs] } }
  refine tail_any (ops := [.ref a, .ref s4.heap.objs.size]) ht.typeIs (PyProof.Rows.slot_tuple_getitem.lookup) ?_ (by with_unfolding_all rfl)
  refine getItem_tuple_rev ht (Heap.IsSliceOf.new _ vl vu vs) pl pu ps ?_ (by rw [List.size_toArray]; omega)
  refine ⟨.ref _, _, I5.laid (t' := s4.toks) (o := .tup xs.reverse) (fun b ob q => Heap.get?_push_of_some _ q) (Nat.le_refl _) ?_, rfl, q _ (I5.hok.fresh (Nat.le_refl _))⟩
  exact ⟨by rw [List.length_reverse]; exact hz, _, r.reverse, IsTup.new _ _⟩
end
section
variable {X : Cx} {W : WX} {e : Expr} {fe : EF} {pos p1 p2 p3 : Pos} {k : Nat}
@[simp] def gRevT : D → Mu → Res D := fun d μ => match d with
  | .tup xs => .val (.tup xs.reverse) μ
  | _ => .fail
theorem de_revT (he : DE X W e fe) : DE X W (.Subscript e (.Slice none none (some (.UnaryOp .USub (.Constant (.int 1) k p1) p2)) p3) pos) (eUn gRevT fe) := by
  obtain ⟨te, h1, h2⟩ := he
  refine ⟨_, pe_revT h1, ⟨fun {H0 S0 ad0 tmp ρ μ σ H Q} R k => ?_⟩⟩
  refine h2.run R ?_
  unfold eUn at k
  cases e1 : fe ρ μ with
  | fail => rw [e1] at k; exact k.elim
  | exc x μ1 => rw [e1] at k; exact k
  | val d μ1 =>
    rw [e1] at k
    simp only [bind_val] at k
    intro v H1 R1
    unfold gRevT at k
    split at k
    · rename_i xs
      obtain ⟨S, ad, c, r⟩ := R1.one
      cases r with
      | tup hs r =>
        refine ⟨_, _, rfl, .inl (.inl (c.sh _ _ hs)), fun p hp => k _ _ ⟨_, ad, (c.stab hp _).push (.tup upd_same (r.reverse.mono (same_new (c.fresh hp).1) adp_refl))⟩⟩
    · exact k.elim
end
theorem mapD_rev {α : Type} {f : α → D} {zs : List α} : (mapD f zs).reverse = mapD f zs.reverse := (List.map_reverse ..).symm
end Dn

/-! Dn8: + of tuples that may be empty, tuple * 0 or 1, lists made by + and * as cells, loops by a measure. -/
namespace Dn
open PySem PySem.Spec PyProof.Rows L2
noncomputable section
theorem tuple_mul0 (l : Addr) (items : Array Value) (n : Nat) (dd : Option Addr) (sl : Array (Option Value)) (x : Int) (u : Tok) (c0 : (decide (x < -(2 ^ 63)) || decide (x ≥ 2 ^ 63)) = false) (c1 : (items.isEmpty || x == 1) = false) (c2 : (decide (x ≤ 0) || items.isEmpty) = true) :
    Meets (Builtin.«tuple.__mul__» ⟨[.ref l, .int x u], []⟩) (fun _ R s => s.heap.get? l = some { cls := .type "tuple", dict := dd, data := .seq items n, slots := sl } ∧
      R (.ok (.ret (Value.ref s.heap.objs.size))) { s with heap := s.heap.push { cls := Value.type "tuple", data := Data.seq #[] }, toks := s.toks }) :=
  .of_wp fun prog w A R s h => by
    obtain ⟨hp, g, d, tk, os⟩ := s
    obtain ⟨hl, h⟩ := h
    have f1 := AutoSeq1.idx_int
    wp_walk using wpAny_loadPart' hl
    repeat (first
      | (refine wpAny_ite_false (decide_eq_false (by rw [c0]; exact Bool.false_ne_true)) ?_; wp_walk using wpAny_loadPart' hl)
      | (refine wpAny_ite_false (decide_eq_false (by rw [c1]; exact Bool.false_ne_true)) ?_; wp_walk using wpAny_loadPart' hl)
      | (refine wpAny_ite_true (decide_eq_true c2) ?_; wp_walk using wpAny_loadPart' hl)
      | (refine wpAny_ite_false (decide_eq_false (Nat.not_lt.mpr (Nat.zero_le _))) ?_; wp_walk using wpAny_loadPart' hl))
    exact ⟨_, rfl, h⟩
theorem tuple_mul1 (l : Addr) (items : Array Value) (n : Nat) (dd : Option Addr) (sl : Array (Option Value)) (u : Tok) :
    Meets (Builtin.«tuple.__mul__» ⟨[.ref l, .int 1 u], []⟩) (fun _ R s => s.heap.get? l = some { cls := .type "tuple", dict := dd, data := .seq items n, slots := sl } ∧
      R (.ok (.ret (Value.ref l))) s) :=
  .of_wp fun prog w A R s h => by
    obtain ⟨hp, g, d, tk, os⟩ := s
    obtain ⟨hl, h⟩ := h
    have f1 := AutoSeq1.idx_int
    have c1 : (items.isEmpty || (1 : Int) == 1) = true := by simp
    wp_walk using wpAny_loadPart' hl
    repeat (first
      | (refine wpAny_ite_false (decide_eq_false (by decide)) ?_; wp_walk using wpAny_loadPart' hl)
      | (refine wpAny_ite_true (decide_eq_true c1) ?_; wp_walk using wpAny_loadPart' hl))
    exact ⟨_, rfl, h⟩
def rRep01 (K : PySem.W.Frag) : R2 := fun x y H Q => ∃ l k xs, x = .ref l ∧ y = .int k ∧ SqT K H l xs ∧ xs ≠ [] ∧ (k = 0 ∨ k = 1) ∧ (k = 1 → Q (.ref l) H) ∧ (k = 0 → ∀ p, H p = none → Q (.ref p) (upd H p (.tup [])))
section
variable {X : Cx}
theorem op_rep01 : OpR X (binaryOp .Mult) (rRep01 X.K) := by
  intro pins s σ H x y v u Q I rx ry h
  obtain ⟨l, k, xs, rfl, rfl, hT, hne, hk, q1, q0⟩ := h
  cases rx
  obtain ⟨t, rfl⟩ := ry
  obtain ⟨its, r, ⟨⟨cls, dd, data, sl⟩, ho, hc, n, hd⟩, hs⟩ := I.tuple hT
  simp only at hc hd
  subst hc hd
  have hle : its.length = xs.length := r.length.symm
  have hn : its ≠ [] := fun e => hne (by
    rw [e] at hle
    exact List.eq_nil_of_length_eq_zero hle.symm)
  have hi : its.toArray.isEmpty = false := by
    cases its with
    | nil => exact absurd rfl hn
    | cons a b => rfl
  refine wpAny_binaryOp_repeat_ref (T := "tuple") (U := "int") (by decide) ⟨_, ho, rfl⟩ (fun s' => typeIs_int s' k t) noFill_tuple_mul F.fills_int_mul F.slot_int_rmul repeat_tuple F.slot_int_index.lookup
    (call_meets F.slot_int_rmul (typeIs_int s k t) F.entry_int_rmul (F.args_int_rmul_2 _ _) (int_rmul_tuple k t l its.toArray n dd sl)
      ⟨ho, rfl, ⟨_, ho, rfl⟩, ?_⟩)
  rcases hk with rfl | rfl
  · refine call_meets F.slot_tuple_mul ⟨_, ho, rfl⟩ F.entry_tuple_mul (F.args_tuple_mul_2 _ _) (tuple_mul0 l its.toArray n dd sl 0 t (by decide) (by rw [hi]; rfl) (by simp)) ⟨ho, ?_⟩
    refine ⟨.ref s.heap.objs.size, _, I.laid (t' := s.toks) (o := .tup []) (fun b ob q => Heap.get?_push_of_some _ q) (Nat.le_refl _) ?_, rfl, q0 rfl _ (I.hok.fresh (Nat.le_refl _))⟩
    exact ⟨by rw [sizeLine_eq]; exact Nat.zero_le _, [], .nil, IsTup.new _ _⟩
  · refine call_meets F.slot_tuple_mul ⟨_, ho, rfl⟩ F.entry_tuple_mul (F.args_tuple_mul_2 _ _) (tuple_mul1 l its.toArray n dd sl t) ⟨ho, ?_⟩
    exact ⟨.ref l, H, I, rfl, q1 rfl⟩
end
/-- t * n, t not empty, any n from nought -/
def gRepA : GF := fun d e μ => match d, e with
  | .tup (x :: xs), .int k => if k = 0 ∨ k = 1 then .val (.tup (if k = 0 then [] else x :: xs)) μ else .fail
  | _, _ => .fail
/-- t + u, either may be empty -/
def gCatA : GF := fun d e μ => match d, e with
  | .tup xs, .tup ys => if xs.length + ys.length ≤ 100000 then .val (.tup (xs ++ ys)) μ else .fail
  | _, _ => .fail
/-- lists as cells -/
def gCatN : GF := fun d e μ => match lsOf d μ, lsOf e μ with
  | some xs, some ys => if xs.length + ys.length ≤ 100000 then .val (.ref μ.length) (μ ++ [.lst (xs ++ ys)]) else .fail
  | _, _ => .fail
def gRepN : GF := fun d e μ => match lsOf d μ, e with
  | some xs, .int k => if Rng k ∧ xs.length * k.toNat ≤ 100000 then .val (.ref μ.length) (μ ++ [.lst (List.replicate k.toNat xs).flatten]) else .fail
  | _, _ => .fail
section
variable {K : PySem.W.Frag} {W : WX}
theorem simO_rep01 : SimO K W (rRep01 K) gRepA := ⟨fun {H0 S0 ad0 tmp ρ μ σ H Q x y d e} R k => by
  obtain ⟨S, ad, c, r1, r2⟩ := R.two
  unfold gRepA at k
  split at k
  · rename_i d0 ds n
    cases r1 with
    | tup h1 q1 =>
      cases r2
      split at k
      · rename_i hz
        rename_i a vs
        have l1 := q1.length
        rw [List.length_cons] at l1
        refine ⟨a, n, vs, rfl, rfl, .of (c.sh _ _ h1), fun z => by rw [z] at l1; simp at l1, hz, fun e => ?_, fun e p hp => ?_⟩
        · subst e
          exact k _ _ ⟨S, ad, c.push (.tup h1 q1)⟩
        · subst e
          exact k _ _ (newTup c .nil hp)
      · exact k.elim
  · exact k.elim⟩
theorem simO_catA : SimO K W (rCatA K) gCatA := ⟨fun {H0 S0 ad0 tmp ρ μ σ H Q x y d e} R k => by
  obtain ⟨S, ad, c, r1, r2⟩ := R.two
  unfold gCatA at k
  split at k
  · rename_i ds es
    cases r1 with
    | tup h1 q1 =>
      cases r2 with
      | tup h2 q2 =>
        rename_i a vs b ws
        split at k
        · rename_i hz
          refine ⟨a, b, vs, ws, rfl, rfl, .inl (.inl (c.sh _ _ h1)), .inl (.inl (c.sh _ _ h2)), sz_of (by rw [q1.length, q2.length]; exact hz), fun z => ?_, fun z z2 => ?_, fun z z2 p hp => k _ _ (newTup c (q1.append q2) hp)⟩
          · subst z
            cases q1
            exact k _ _ ⟨S, ad, c.push (.tup h2 q2)⟩
          · subst z2
            cases q2
            rw [List.append_nil] at k
            exact k _ _ ⟨S, ad, c.push (.tup h1 q1)⟩
        · exact k.elim
  · exact k.elim⟩
theorem simO_catN : SimO K W rCat gCatN := ⟨fun {H0 S0 ad0 tmp ρ μ σ H Q x y d e} R k => by
  obtain ⟨S, ad, c, r1, r2⟩ := R.two
  unfold gCatN at k
  split at k
  · rename_i xs ys h1 h2
    split at k
    · rename_i hz
      obtain ⟨a, vs, rfl, e1, q1⟩ := lsOf_at c r1 h1
      obtain ⟨b, ws, rfl, e2, q2⟩ := lsOf_at c r2 h2
      exact ⟨a, b, vs, ws, rfl, rfl, e1, e2, sz_of (by rw [q1.length, q2.length]; exact hz), fun p hp => k _ _ (newCell c (q1.append q2) hp)⟩
    · exact k.elim
  · exact k.elim⟩
theorem simO_repN : SimO K W rRep gRepN := ⟨fun {H0 S0 ad0 tmp ρ μ σ H Q x y d e} R k => by
  obtain ⟨S, ad, c, r1, r2⟩ := R.two
  unfold gRepN at k
  split at k
  · rename_i xs n h1
    split at k
    · rename_i hz
      cases r2
      obtain ⟨a, vs, rfl, e1, q1⟩ := lsOf_at c r1 h1
      exact ⟨a, n, vs, rfl, rfl, e1, by have := hz.1.lo; omega, by have := hz.1.hi; omega, sz_of (by rw [q1.length]; exact hz.2), fun p hp => k _ _ (newCell c (rep_rp q1 n.toNat) hp)⟩
    · exact k.elim
  · exact k.elim⟩
end
def gAddA : GF := orG (gI fun i j => .int (i + j)) (orG gCatS (orG gCat gCatA))
def gMulA : GF := orG gMulI (orG gRepL (orG gRepT gRepA))
section
variable {X : Cx} {W : WX}
theorem oo_addA : OpO X W .Add gAddA := ⟨_, op_add.or (op_add_str.or (op_cat.or op_catA)), (simO_I0 fun i j => flat_int _).or (simO_catS.or (simO_cat.or simO_catA))⟩
theorem oo_mulA : OpO X W .Mult gMulA := ⟨_, op_mulX.or (op_rep.or (op_repT.or op_rep01)), (simO_I (fun _ _ h => mulOk_ok h) fun i j => flat_int _).or (simO_repL.or (simO_repT.or simO_rep01))⟩
theorem oo_addN : OpO X W .Add gCatN := ⟨_, op_cat, simO_catN⟩
theorem oo_mulN : OpO X W .Mult gRepN := ⟨_, op_rep, simO_repN⟩
end
section
variable {i j : Int} {μ : Mu} {xs ys : List D} {x : D}
@[simp] theorem gAddA_int : gAddA (.int i) (.int j) μ = .val (.int (i + j)) μ := rfl
theorem gAddA_tup (h : xs.length + ys.length ≤ 100000) : gAddA (.tup xs) (.tup ys) μ = .val (.tup (xs ++ ys)) μ := by
  simp [gAddA, orG, gI, gCatS, gCat, lsOf, gCatA, h]
theorem gMulA_small (h1 : -(2 ^ 64) < i) (h2 : i < 2 ^ 64) (h3 : -(2 ^ 64) < j) (h4 : j < 2 ^ 64) : gMulA (.int i) (.int j) μ = .val (.int (i * j)) μ := by
  unfold gMulA orG gMulI gIc
  simp only [if_pos (mulOk_small h1 h2 h3 h4)]
theorem gMulA_ok (h : MulOk i j) : gMulA (.int i) (.int j) μ = .val (.int (i * j)) μ := by
  unfold gMulA orG gMulI gIc
  simp only [if_pos h]
@[simp] theorem gMulA_t0 : gMulA (.tup (x :: xs)) (.int 0) μ = .val (.tup []) μ := by
  simp [gMulA, orG, gMulI, gIc, gRepL, lsOf, gRepT, gRepA]
@[simp] theorem gMulA_t1 : gMulA (.tup (x :: xs)) (.int 1) μ = .val (.tup (x :: xs)) μ := by
  simp [gMulA, orG, gMulI, gIc, gRepL, lsOf, gRepT, gRepA]
end
/-! while by a measure -/
/-- as many turns as one can wish for; nothing unfolds it -/
theorem fuelP : ∃ n : Nat, 1000000000 ≤ n := ⟨1000000000, Nat.le_refl _⟩
noncomputable def FUEL : Nat := Classical.choose fuelP
theorem lt_fuel {n : Nat} (h : n < 1000000000) : n < FUEL := Nat.lt_of_lt_of_le h (Classical.choose_spec fuelP)
def wturn (c : TF) (b : SF) (ρ : Ro) (μ : Mu) : Out := match c ρ μ with
  | .val true μ1 => b ρ μ1
  | .val false μ1 => .bk ρ μ1
  | .exc x μ1 => .exc x ρ μ1
  | .fail => .fail
theorem whileN_turn (c : TF) (b : SF) (n : Nat) (ρ : Ro) (μ : Mu) : whileN c b (n + 1) ρ μ = match wturn c b ρ μ with
      | .nx ρ2 μ2 => whileN c b n ρ2 μ2
      | .ct ρ2 μ2 => whileN c b n ρ2 μ2
      | .bk ρ2 μ2 => .nx ρ2 μ2
      | .ret d μ2 => .ret d μ2
      | .exc x ρ2 μ2 => .exc x ρ2 μ2
      | .fail => .fail := by
  unfold wturn
  rw [whileN]
  cases c ρ μ with
  | val t μ1 => cases t <;> rfl
  | exc x μ1 => rfl
  | fail => rfl
theorem whileN_ends {c : TF} {b : SF} {B : Ro → Mu → Prop} {R : D → Mu → Prop} (I : Nat → Ro → Mu → Prop) (hs : ∀ (n : Nat) (ρ : Ro) (μ : Mu), I n ρ μ → Ends3 (fun ρ' μ' => ∃ m, m < n ∧ I m ρ' μ') B R (wturn c b ρ μ)) :
    ∀ (N n : Nat) (ρ : Ro) (μ : Mu), n < N → I n ρ μ → LoopEnds B R (whileN c b N ρ μ)
  | 0, n, ρ, μ, h, _ => absurd h (Nat.not_lt_zero n)
  | N + 1, n, ρ, μ, h, hI => by
    have k := hs n ρ μ hI
    rw [whileN_turn]
    cases e : wturn c b ρ μ with
    | nx ρ2 μ2 => rw [e] at k; obtain ⟨m, hm, k⟩ := k; exact whileN_ends I hs N m ρ2 μ2 (by omega) k
    | ct ρ2 μ2 => rw [e] at k; obtain ⟨m, hm, k⟩ := k; exact whileN_ends I hs N m ρ2 μ2 (by omega) k
    | bk ρ2 μ2 => rw [e] at k; exact k
    | ret d2 μ2 => rw [e] at k; exact k
    | exc x ρ2 μ2 => rw [e] at k; exact k.elim
    | fail => rw [e] at k; exact k.elim
/-- a while that no return leaves -/
theorem whileN_nx {c : TF} {b : SF} {B : Ro → Mu → Prop} (I : Nat → Ro → Mu → Prop) {N n : Nat} {ρ : Ro} {μ : Mu} (hn : n < N) (h0 : I n ρ μ) (hs : ∀ (n : Nat) (ρ : Ro) (μ : Mu), I n ρ μ → Ends3 (fun ρ' μ' => ∃ m, m < n ∧ I m ρ' μ') B (fun _ _ => False) (wturn c b ρ μ)) :
    ∃ ρ' μ', whileN c b N ρ μ = .nx ρ' μ' ∧ B ρ' μ' := by
  have h := whileN_ends I hs N n ρ μ hn h0
  cases e : whileN c b N ρ μ with
  | nx ρ' μ' => rw [e] at h; exact ⟨ρ', μ', rfl, h⟩
  | _ => rw [e] at h; exact h.elim
end
end Dn

/-! Dn9: a, b = a list. -/
namespace PyProof.Rows
open PySem
section
variable {prog : Program} {w : World} {A : Around} {E : Value → Shared → Prop} {s : Shared}
theorem draw_list {it t : Addr} {items : Array Value} (hne : t ≠ it) : ∀ (n i : Nat) (s : Shared) (Q : List Value → Shared → Prop), s.heap.IsListIter it t i → s.heap.IsList t items → i + n ≤ items.size →
    (∀ h' : Heap, h'.IsListIter it t (i + n) → Heap.SameBut it s.heap h' → Q ((items.toList.drop i).take n) { s with heap := h' }) → wpAny (model prog w) A (draw (.ref it) n) Q E s
  | 0, i, s, Q, hit, _, _, hQ => by
    show wpAny _ _ (pure []) Q E s
    exact wpAny_pure (by simpa using hQ s.heap hit (Heap.SameBut.refl ..))
  | n + 1, i, s, Q, hit, ht, hle, hQ => by
    have hlt : i < items.size := by omega
    show wpAny _ _ (pyNext (.ref it) >>= _) Q E s
    refine wpAny_bind (wpAny_pyNext_list_item hit ht (x := items[i]) (by simp [hlt]) fun h₁ hit₁ hs₁ => ?_)
    refine wpAny_bind (wpAny_holding (draw_list hne n (i + 1) _ _ hit₁ (ht.extBut hs₁.extBut hne) (by omega) fun h₂ hit₂ hs₂ => wpAny_pure ?_))
    have hd : items.toList.drop i = items[i] :: items.toList.drop (i + 1) := by simp [List.drop_eq_getElem_cons, hlt]
    have := hQ h₂ (by rw [show i + (n + 1) = i + 1 + n by omega]; exact hit₂) (hs₁.trans hs₂)
    rw [hd, List.take_succ_cons] at this
    exact this
theorem unpackItems_list {t : Addr} {items : Array Value} {Q : List Value → Shared → Prop} (hh : A.handled = none) (ht : s.heap.IsList t items)
    (hQ : ∀ h', Heap.ExtBut s.heap.objs.size s.heap h' → Q items.toList { s with heap := h' }) : wpAny (model prog w) A (unpackItems (.ref t) items.size none) Q E s := by
  have hlt : t ≠ s.heap.objs.size := by obtain ⟨o, ho, _⟩ := ht; exact Nat.ne_of_lt (Heap.lt_size ho)
  unfold unpackItems
  refine wpAny_bind ?_
  · unfold notIterableAtAll
    refine wpAny_bind (wpAny_specialOf ht.typeIs slot_list_iter.lookup ?_)
    refine wpAny_pure ?_
    simp only [Bool.false_eq_true, if_false]
    refine wpAny_bind (wpAny_holding (wpAny_pyIter_list ht ?_))
    refine wpAny_bind (wpAny_holding (draw_list hlt items.size 0 _ _ ⟨_, Heap.get?_push_size _ rfl, rfl, rfl⟩ (ht.push _) (by omega) fun h₁ hit₁ hs₁ => ?_))
    have hall : List.take items.size (List.drop 0 items.toList) = items.toList := by
      rw [List.drop_zero]; exact List.take_of_length_le (by simp)
    rw [hall]
    rw [if_neg (by simp)]
    have ht₁ : h₁.IsList t items := (ht.push _).extBut hs₁.extBut hlt
    refine wpAny_bind (wpAny_holding (wpAny_pyNext_list_end hh hit₁ ht₁ (by simp) fun h₂ he₂ => ?_))
    simp only [Option.isSome_none, Bool.false_eq_true, if_false]
    refine wpAny_pure (hQ h₂ fun b o hb e => he₂ b o hb (hs₁.extBut b o hb (Heap.get?_push_of_some _ e)))
theorem assign_Tuple_list {env : Env} {elts : List Expr} {x1} {pos : Pos} {t : Addr} {items : Array Value} {Q : Unit → Shared → Prop} (hh : A.handled = none) (ht : s.heap.IsList t items)
    (hn : (assignEach elts env).length = items.size) (hstar : (assignEach elts env).findIdx? (·.1) = none)
    (h : ∀ h', Heap.ExtBut s.heap.objs.size s.heap h' → wpAny (model prog w) A (assignInOrder ((assignEach elts env).map (·.2)) items.toList) Q E { s with heap := h' }) :
    wpAny (model prog w) A (assign (.Tuple elts x1 pos) env (.ref t)) Q E s := by
  rw [assign_Tuple]
  refine wpAny_bind (wpAny_standAt ?_)
  unfold unpack
  rw [hn, hstar]
  exact wpAny_bind (wpAny_holding (unpackItems_list hh ht h))
end
end PyProof.Rows
namespace Dn
open PySem PySem.Spec PyProof.Rows L2
/-- (a, b, ..) = a tuple or a list of that length -/
def tTpA (K : PySem.W.Frag) (n : Nat) (t : TGs) : TG := fun v σ H Q => ∃ a xs, v = .ref a ∧ SqH K H a xs ∧ xs.length = n ∧ t xs σ H Q
section
variable {X : Cx} {W : WX} {es : List Expr} {t : TGs} {n : Nat} {pos : Pos}
theorem pg_tupA {k : Nat} (hc : X.calm = true) (h : PGs X es t)
    (hn : (assignEach es X.env).length = n := by rfl) (hst : (assignEach es X.env).findIdx? (·.1) = none := by rfl) : PG X (.Tuple es k pos) (tTpA X.K n t) := by
  refine ⟨fun pins s σ H v u Q I r hw => ?_⟩
  obtain ⟨a, xs, e1, hq | hq, hl, hw⟩ := hw
  · subst e1
    cases r
    obtain ⟨its, rv, ht, hz⟩ := I.list hq
    refine assign_Tuple_list (I.ok.hd hc) ht.isList (by simp [hn, ← hl, rv.length]) hst fun h' hx => ?_
    have I1 : Inv X pins σ H { s with heap := h' } := I.kept (t' := s.toks) fun b o e => hx b o (Nat.ne_of_lt (Heap.lt_size e)) e
    exact h.run pins _ σ H xs _ Q I1 (by simpa using rv) hw
  · subst e1
    cases r
    obtain ⟨its, rv, ht, hz⟩ := I.tuple hq
    refine assign_Tuple_tuple (I.ok.hd hc) ht (by simp [hn, ← hl, rv.length]) hst fun h' hx => ?_
    have I1 : Inv X pins σ H { s with heap := h' } := I.kept (t' := s.toks) fun b o e => hx b o (Nat.ne_of_lt (Heap.lt_size e)) e
    exact h.run pins _ σ H xs _ Q I1 (by simpa using rv) hw
end
@[simp] def gTpA (n : Nat) (g : GTs) : GT := fun d ρ μ => match sqOf d μ with
  | some ds => if ds.length = n then g ds ρ μ else none
  | none => none
theorem simG_tupA {K : PySem.W.Frag} {u : TGs} {g : GTs} {n : Nat} (hu : SimGs K u g) : SimG K (tTpA K n u) (gTpA n g) := ⟨fun {H0 S0 ad0 tmp ρ μ σ H Q v d ρ' μ'} R e h => by
  obtain ⟨S, ad, c, r⟩ := R.one
  unfold gTpA at e
  split at e
  · rename_i ds hs
    split at e
    · rename_i hn
      obtain ⟨a, vs, rfl, q, rr⟩ := sqOf_at c r hs
      refine ⟨a, vs, rfl, q, by rw [rr.length]; exact hn, hu.run rr.length ⟨S, ad, c.tmps fun p m => ?_⟩ e h⟩
      rcases List.mem_append.mp m with m | m
      · exact zip_rpL rr p m
      · exact c.tm p m
    · cases e
  · cases e⟩
theorem dg_tupA {X : Cx} {es : List Expr} {gs : GTs} {pos : Pos} {k : Nat} (n : Nat) (hc : X.calm = true) (h : DGs X es gs) (hn : (assignEach es X.env).length = n := by rfl) (hst : (assignEach es X.env).findIdx? (·.1) = none := by rfl) : DG X (.Tuple es k pos) (gTpA n gs) := by
  obtain ⟨_, p1, q1⟩ := h
  exact ⟨_, pg_tupA hc p1 hn hst, simG_tupA q1⟩
end Dn

/-! Dn10: what most laws draw: cells of a script, mixed ones; rows of None and ints. -/
namespace Dn
open PySem PySem.Spec PyProof.Rows L2
/-- a way -/
abbrev wayD (b : Int) (cs : List Int) : D := .tup [.int b, .tup (mapD D.int cs)]
/-- the script's item, nought behind it -/
def cellZ (ns : List Int) (k : Int) : Int := if k < ns.length then nth ns k.toNat else 0
def mixZ (c k : Int) : Int := (c + 7919 * k + 3) * (c + 7919 * k + 3) % 2147483647 * 48271 % 2147483647
theorem mixZ_b (c k : Int) : 0 ≤ mixZ c k ∧ mixZ c k < 2147483647 := by unfold mixZ; omega
/-- a cell of a script -/
def Cell (c : Int) : Prop := c.natAbs.log2 ≤ 1048580
theorem Cell.mix {c k : Int} (h : Cell c) (hk : -1000 ≤ k ∧ k ≤ 1000) : Big (c + 7919 * k + 3) := by
  have a := log2_add (k := 1048580) h (Nat.le_trans (log2_small (x := 7919 * k) (by omega) (by omega)) (by decide))
  have b := log2_add (k := 1048581) (y := 3) a (by decide)
  unfold Big
  omega
theorem cell_cell {ns : List Int} (hb : ∀ z ∈ ns, Builtin.Int.intBits z ≤ 1048576) (k : Int) : Cell (cellZ ns k) := by
  unfold Cell cellZ
  split
  · unfold nth
    rw [List.getD_eq_getElem?_getD]
    cases e : ns[k.toNat]? with
    | none => simp
    | some z => exact Nat.le_trans (intBits_log2 (hb z (List.mem_of_getElem? e))) (by decide)
  · simp
theorem kit_ii : kitB "int" "int" = some true := by decide +kernel
theorem kit_ib : kitB "int" "bool" = some false := by decide +kernel
theorem kit_tt : kitB "tuple" "tuple" = some true := by decide +kernel
theorem kit_ss : kitB "str" "str" = some true := by decide +kernel
theorem kit_ll : kitB "list" "list" = some true := by decide +kernel
theorem kit_dd : kitB "dict" "dict" = some true := by decide +kernel
theorem kit_bb : kitB "bool" "bool" = some true := by decide +kernel
theorem kit_bi : kitB "bool" "int" = some true := by decide +kernel
theorem pow12 (μ : Mu) : gPow (.int 10) (.int 12) μ = .val (.int 1000000000000) μ := by
  rw [gPow_ok (by decide) (by decide) (by decide) (by decide)]
  rfl
def oD : Option Int → D
  | none => .non
  | some z => .int z
@[simp] theorem oD_none : oD none = .non := rfl
@[simp] theorem oD_some {z : Int} : oD (some z) = .int z := rfl
@[simp] theorem oD_nf (z : Option Int) : nf (oD z) = true := by cases z <;> rfl
@[simp] theorem oD_fz (z : Option Int) (μ : Mu) : fz μ (oD z) = oD z := by cases z <;> simp
@[simp] theorem nfL_oD (zs : List (Option Int)) : nfL (mapD oD zs) = true := mapD_nf fun _ => by simp
@[simp] theorem fzL_oD {μ : Mu} (zs : List (Option Int)) : fzL μ (mapD oD zs) = mapD oD zs := mapD_fz fun _ => by simp
end Dn

/-! Dn11: dicts as cells. -/
namespace Dn
open PySem PySem.Spec PyProof.Rows L2
section
variable {κ : Type} [DecidableEq κ]
def valD (kvs : List (κ × D)) (k : κ) : Option D := (kvs.find? fun kv => decide (kv.1 = k)).map (·.2)
def putD (kvs : List (κ × D)) (k : κ) (d : D) : List (κ × D) :=
  if (kvs.any fun kv => decide (kv.1 = k)) = true then kvs.map (fun kv => if kv.1 = k then (kv.1, d) else kv) else kvs ++ [(k, d)]
def dropD (kvs : List (κ × D)) (k : κ) : List (κ × D) := kvs.filter fun kv => decide (kv.1 ≠ k)
variable {K : PySem.W.Frag} {S : Hp} {ad : Ad}
/-- a dict's pairs in the heap and as trees -/
inductive DR (K : PySem.W.Frag) (S : Hp) (ad : Ad) : List (κ × V) → List (κ × D) → Prop
  | nil : DR K S ad [] []
  | cons {k : κ} {v : V} {d : D} {ws : List (κ × V)} {kvs : List (κ × D)} : Rp K S ad v d → DR K S ad ws kvs → DR K S ad ((k, v) :: ws) ((k, d) :: kvs)
theorem DR.of : ∀ {ws : List (κ × V)} {kvs : List (κ × D)}, ws.map (·.1) = kvs.map (·.1) → RpL K S ad (ws.map (·.2)) (kvs.map (·.2)) → DR K S ad ws kvs
  | [], [], _, _ => .nil
  | (k, v) :: ws, (k', d) :: kvs, e, r => by
    rw [List.map_cons, List.map_cons] at e
    injection e with e1 e2
    have e1 : k = k' := e1
    subst e1
    cases r with
    | cons p t => exact .cons p (DR.of e2 t)
  | [], _ :: _, e, _ => by simp at e
  | _ :: _, [], e, _ => by simp at e
theorem DR.keys {ws : List (κ × V)} {kvs : List (κ × D)} (r : DR K S ad ws kvs) : ws.map (·.1) = kvs.map (·.1) := by
  induction r with
  | nil => rfl
  | cons p t ih => rw [List.map_cons, List.map_cons, ih]
theorem DR.vals {ws : List (κ × V)} {kvs : List (κ × D)} (r : DR K S ad ws kvs) : RpL K S ad (ws.map (·.2)) (kvs.map (·.2)) := by
  induction r with
  | nil => exact .nil
  | cons p t ih => exact .cons p ih
theorem DR.length {ws : List (κ × V)} {kvs : List (κ × D)} (r : DR K S ad ws kvs) : ws.length = kvs.length := by
  have := congrArg List.length r.keys
  simpa using this
theorem valD_pos {p : κ × D} {r : List (κ × D)} {k : κ} (e : p.1 = k) : valD (p :: r) k = some p.2 := by simp [valD, List.find?_cons, e]
theorem valD_neg {p : κ × D} {r : List (κ × D)} {k : κ} (e : ¬ p.1 = k) : valD (p :: r) k = valD r k := by simp [valD, List.find?_cons, e]
theorem DR.gets {ws : List (κ × V)} {kvs : List (κ × D)} (r : DR K S ad ws kvs) {k : κ} {d : D} : valD kvs k = some d → ∃ v, valV ws k = some v ∧ Rp K S ad v d := by
  induction r with
  | nil => intro h; cases h
  | @cons k' v d' ws kvs p t ih =>
    intro h
    by_cases e : k' = k
    · rw [valD_pos (p := (k', d')) e] at h
      cases h
      exact ⟨v, valV_pos (p := (k', v)) e, p⟩
    · rw [valD_neg (p := (k', d')) e] at h
      obtain ⟨u, h1, h2⟩ := ih h
      exact ⟨u, by rw [valV_neg (p := (k', v)) e]; exact h1, h2⟩
theorem DR.misses {ws : List (κ × V)} {kvs : List (κ × D)} (r : DR K S ad ws kvs) {k : κ} : valD kvs k = none → valV ws k = none := by
  induction r with
  | nil => intro _; rfl
  | @cons k' v d' ws kvs p t ih =>
    intro h
    by_cases e : k' = k
    · rw [valD_pos (p := (k', d')) e] at h; cases h
    · rw [valD_neg (p := (k', d')) e] at h
      rw [valV_neg (p := (k', v)) e]; exact ih h
theorem DR.any {ws : List (κ × V)} {kvs : List (κ × D)} (r : DR K S ad ws kvs) (k : κ) : (ws.any fun kv => decide (kv.1 = k)) = (kvs.any fun kv => decide (kv.1 = k)) := by
  induction r with
  | nil => rfl
  | cons p t ih => rw [List.any_cons, List.any_cons, ih]
theorem DR.app {ws ws' : List (κ × V)} {kvs kvs' : List (κ × D)} (r : DR K S ad ws kvs) (q : DR K S ad ws' kvs') : DR K S ad (ws ++ ws') (kvs ++ kvs') := by
  induction r with
  | nil => exact q
  | cons p t ih => exact .cons p ih
theorem DR.repl {ws : List (κ × V)} {kvs : List (κ × D)} (r : DR K S ad ws kvs) (k : κ) {v : V} {d : D} (h : Rp K S ad v d) : DR K S ad (ws.map fun kv => if kv.1 = k then (kv.1, v) else kv) (kvs.map fun kv => if kv.1 = k then (kv.1, d) else kv) := by
  induction r with
  | nil => exact .nil
  | @cons k' v' d' ws kvs p t ih =>
    rw [List.map_cons, List.map_cons]
    by_cases e : k' = k
    · rw [if_pos e, if_pos e]; exact .cons h ih
    · rw [if_neg e, if_neg e]; exact .cons p ih
theorem DR.put {ws : List (κ × V)} {kvs : List (κ × D)} (r : DR K S ad ws kvs) (k : κ) {v : V} {d : D} (h : Rp K S ad v d) : DR K S ad (putK ws k v) (putD kvs k d) := by
  unfold putK putD
  rw [r.any k]
  by_cases e : (kvs.any fun kv => decide (kv.1 = k)) = true
  · rw [if_pos e, if_pos e]; exact r.repl k h
  · rw [if_neg e, if_neg e]; exact r.app (.cons h .nil)
theorem DR.drop {ws : List (κ × V)} {kvs : List (κ × D)} (r : DR K S ad ws kvs) (k : κ) : DR K S ad (dropK ws k) (dropD kvs k) := by
  unfold dropK dropD
  induction r with
  | nil => exact .nil
  | @cons k' v' d' ws kvs p t ih =>
    by_cases e : k' = k
    · rw [List.filter_cons_of_neg (by simpa using e), List.filter_cons_of_neg (by simpa using e)]; exact ih
    · rw [List.filter_cons_of_pos (by simpa using e), List.filter_cons_of_pos (by simpa using e)]; exact .cons p ih
theorem DR.mono {S' : Hp} {ad' : Ad} {ws : List (κ × V)} {kvs : List (κ × D)} (e : Same S S') (p : ∀ (n : Nat) (a : Addr), ad[n]? = some a → ad'[n]? = some a) (r : DR K S ad ws kvs) : DR K S' ad' ws kvs := by
  induction r with
  | nil => exact .nil
  | cons h t ih => exact .cons (h.mono e p) ih
theorem DR.get {ws : List (κ × V)} {kvs : List (κ × D)} (r : DR K S ad ws kvs) : ∀ {i : Nat} {k : κ} {v : V}, ws[i]? = some (k, v) → ∃ d, kvs[i]? = some (k, d) ∧ Rp K S ad v d := by
  induction r with
  | nil => intro i k v h; simp at h
  | @cons k' v' d' ws kvs p t ih =>
    intro i k v h
    cases i with
    | zero => simp at h; obtain ⟨rfl, rfl⟩ := h; exact ⟨d', rfl, p⟩
    | succ i => simp at h; simpa using ih h
theorem putD_len (kvs : List (κ × D)) (k : κ) (d : D) : (putD kvs k d).length ≤ kvs.length + 1 := by
  unfold putD
  split
  · rw [List.length_map]; omega
  · rw [List.length_append]; exact Nat.le_refl _
end
/-! keys -/
@[simp] def kOf : D → Option Key
  | .int i => some (.inl i)
  | .str s => some (.inr s)
  | _ => none
@[simp] def kD : Key → D
  | .inl i => .int i
  | .inr s => .str s
@[simp] def ksOf : List D → Option (List Key)
  | [] => some []
  | d :: r => (kOf d).bind fun k => (ksOf r).map fun ks => k :: ks
section
variable {K : PySem.W.Frag} {S : Hp} {ad : Ad} {v : V} {d : D}
theorem kOf_at {k : Key} (r : Rp K S ad v d) (h : kOf d = some k) : v = kV k := by
  cases d <;> simp only [kOf] at h <;> first | cases h | skip
  all_goals (cases r; rfl)
theorem kD_rp (k : Key) : Rp K S ad (kV k) (kD k) := by
  cases k with
  | inl i => exact .int i
  | inr s => exact .str s
theorem ksD_rp : ∀ ks : List Key, RpL K S ad (ks.map kV) (ks.map kD)
  | [] => .nil
  | k :: r => .cons (kD_rp k) (ksD_rp r)
theorem ksOf_at : ∀ {ds : List D} {vs : List V} {ks : List Key}, RpL K S ad vs ds → ksOf ds = some ks → vs = ks.map kV
  | [], _, ks, r, h => by cases r; cases h; rfl
  | d :: ds, _, ks, r, h => by
    cases r with
    | cons p t =>
      simp only [ksOf, Option.bind_eq_some_iff, Option.map_eq_some_iff] at h
      obtain ⟨k, h1, ks', h2, rfl⟩ := h
      rw [kOf_at p h1, ksOf_at t h2]
      rfl
end
/-- what a dict's cell holds at a key -/
def dGet (μ : Mu) (n : Nat) (e : D) : Option (Option D) := match μ[n]? with
  | some (.dK kvs) => (kOf e).map (valD kvs)
  | some (.lkK _ _ kvs) => (kOf e).map (valD kvs)
  | some (.dT kvs) => (match e with
    | .tup ds => (ksOf ds).map (valD kvs)
    | _ => none)
  | some (.lkT _ _ kvs) => (match e with
    | .tup ds => (ksOf ds).map (valD kvs)
    | _ => none)
  | _ => none
section
variable {K : PySem.W.Frag} {W : WX} {H0 S0 : Hp} {ad0 : Ad} {S : Hp} {ad : Ad} {tmp : List (V × D)} {ρ : Ro} {μ : Mu} {σ : L2.St} {H : Hp} {u v : V} {d e : D}
theorem valD_at {κ : Type} [DecidableEq κ] {ws : List (κ × V)} {kvs : List (κ × D)} (r : DR K S ad ws kvs) (k : κ) : ∃ q : Option V, valV ws k = q ∧ (∀ d, valD kvs k = some d → ∃ v, q = some v ∧ Rp K S ad v d) ∧ (valD kvs k = none → q = none) :=
  ⟨_, rfl, fun d h => r.gets h, fun h => r.misses h⟩
theorem dGet_at {n : Nat} {a : Addr} {o : Option D} (c : Core K H0 S0 ad0 S ad tmp ρ μ σ H) (ha : ad[n]? = some a) (r : Rp K S ad u e) (h : dGet μ n e = some o) : ∃ q, DGet H a u q ∧ (∀ d, o = some d → ∃ v, q = some v ∧ Rp K S ad v d) ∧ (o = none → q = none) := by
  unfold dGet at h
  split at h
  · rename_i kvs hm
    obtain ⟨k, h1, rfl⟩ := Option.map_eq_some_iff.mp h
    obtain ⟨ws, g1, g2, g3⟩ := c.at_ n a _ ha hm
    obtain ⟨q, q1, q2, q3⟩ := valD_at (DR.of g2 g3) k
    exact ⟨q, .inl ⟨ws, k, .inl g1, kOf_at r h1, q1.symm⟩, q2, q3⟩
  · rename_i o ws kvs hm
    obtain ⟨k, h1, rfl⟩ := Option.map_eq_some_iff.mp h
    obtain ⟨g1, g2, g3⟩ := c.at_ n a _ ha hm
    obtain ⟨q, q1, q2, q3⟩ := valD_at (DR.of g2 g3) k
    exact ⟨q, .inl ⟨ws, k, .inr ⟨o, g1⟩, kOf_at r h1, q1.symm⟩, q2, q3⟩
  · rename_i kvs hm
    split at h
    · rename_i ds
      obtain ⟨k, h1, rfl⟩ := Option.map_eq_some_iff.mp h
      obtain ⟨ws, g1, g2, g3⟩ := c.at_ n a _ ha hm
      obtain ⟨q, q1, q2, q3⟩ := valD_at (DR.of g2 g3) k
      cases r with
      | tup hs hr =>
        have e1 := ksOf_at hr h1
        subst e1
        exact ⟨q, .inr ⟨ws, k, _, .inl g1, rfl, c.sh _ _ hs, q1.symm⟩, q2, q3⟩
    · cases h
  · rename_i o ws kvs hm
    split at h
    · rename_i ds
      obtain ⟨k, h1, rfl⟩ := Option.map_eq_some_iff.mp h
      obtain ⟨g1, g2, g3⟩ := c.at_ n a _ ha hm
      obtain ⟨q, q1, q2, q3⟩ := valD_at (DR.of g2 g3) k
      cases r with
      | tup hs hr =>
        have e1 := ksOf_at hr h1
        subst e1
        exact ⟨q, .inr ⟨ws, k, _, .inr ⟨o, g1⟩, rfl, c.sh _ _ hs, q1.symm⟩, q2, q3⟩
    · cases h
  · cases h
end
/-- d[k] -/
def gDix : GF := fun d e μ => match d with
  | .ref n => (match dGet μ n e with
    | some (some x) => .val x μ
    | _ => .fail)
  | _ => .fail
/-- k in d -/
def gDInF (f : Bool → Bool) : GF := fun e d μ => match d with
  | .ref n => (match dGet μ n e with
    | some o => .val (.bl (f o.isSome)) μ
    | _ => .fail)
  | _ => .fail
def gDIn : GF := gDInF id
def gDNotIn : GF := gDInF not
def rDIn (f : Bool → Bool) : R2 := fun y x H Q => ∃ a o, x = .ref a ∧ DGet H a y o ∧ Q (.bl (f o.isSome)) H
section
variable {K : PySem.W.Frag} {W : WX} {X : Cx}
theorem simO_dix : SimO K W (fun x y H Q => ∃ a v, x = .ref a ∧ DGet H a y (some v) ∧ Q v H) gDix := ⟨fun {H0 S0 ad0 tmp ρ μ σ H Q x y d e} R k => by
  obtain ⟨S, ad, c, r1, r2⟩ := R.two
  unfold gDix at k
  split at k
  · rename_i n
    split at k
    · rename_i z hz
      cases r1 with
      | ref ha =>
        rename_i a
        obtain ⟨q, g1, g2, _⟩ := dGet_at c ha r2 hz
        obtain ⟨v, rfl, rv⟩ := g2 _ rfl
        exact ⟨a, v, rfl, g1, k _ _ ⟨S, ad, c.push rv⟩⟩
    · exact k.elim
  · exact k.elim⟩
theorem simO_din (f : Bool → Bool) : SimO K W (rDIn f) (gDInF f) := ⟨fun {H0 S0 ad0 tmp ρ μ σ H Q x y d e} R k => by
  obtain ⟨S, ad, c, r1, r2⟩ := R.two
  unfold gDInF at k
  split at k
  · rename_i n
    split at k
    · rename_i o hz
      cases r2 with
      | ref ha =>
        rename_i a
        obtain ⟨q, g1, g2, g3⟩ := dGet_at c ha r1 hz
        have e : q.isSome = o.isSome := by
          cases o with
          | none => rw [g3 rfl]; rfl
          | some d => obtain ⟨v, rfl, _⟩ := g2 _ rfl; rfl
        refine ⟨a, q, rfl, g1, ?_⟩
        rw [e]
        exact k _ _ (c.flat (flat_bl _))
    · exact k.elim
  · exact k.elim⟩
theorem oc_din (hu : X.A.units + 1 < cLine) : CmO X W .In gDIn := ⟨rDIn id, fun pins s σ H x y v u Q I rx ry h => by
  obtain ⟨a, o, rfl, g, q⟩ := h
  cases ry
  exact d_in hu I g rx fun s3 I3 => ⟨.bl o.isSome, H, I3, rfl, q⟩, simO_din id⟩
theorem oc_dnotin (hu : X.A.units + 1 < cLine) : CmO X W .NotIn gDNotIn := ⟨rDIn not, fun pins s σ H x y v u Q I rx ry h => by
  obtain ⟨a, o, rfl, g, q⟩ := h
  cases ry
  exact d_notIn hu I g rx fun s3 I3 => ⟨.bl (!o.isSome), H, I3, rfl, q⟩, simO_din not⟩
variable {o i e f : Expr} {fo fi fe fx : EF} {pos apos cpos : Pos}
theorem de_dix (hu : X.A.units + 1 < cLine) (ho : DE X W o fo) (hi : DE X W i fi) (hs : NoSl i := by intro _ _; rfl) : DE X W (.Subscript o i pos) (eOp gDix fo fi) :=
  let ⟨_, p1, q1⟩ := ho; let ⟨_, p2, q2⟩ := hi; ⟨_, pe_dget hu p1 p2 hs, simE_op q1 q2 simO_dix⟩
end
/-! d[k] = v -/
def dPut (μ : Mu) (n : Nat) (e v : D) : Option Mu := match μ[n]? with
  | some (.dK kvs) => (kOf e).bind fun k => if kvs.length < 100000 then some (μ.set n (.dK (putD kvs k v))) else none
  | some (.dT kvs) => (match e with
    | .tup ds => (ksOf ds).bind fun k => if kvs.length < 100000 then some (μ.set n (.dT (putD kvs k v))) else none
    | _ => none)
  | _ => none
def gDSet (o i : EF) : GT := fun d ρ μ => match o ρ μ with
  | .val (.ref n) μ1 => (match i ρ μ1 with
    | .val e μ2 => (dPut μ2 n e d).map fun μ3 => (ρ, μ3)
    | _ => none)
  | _ => none
def rSetD : TSet := fun o i v H Q => ∃ a H', o = .ref a ∧ DPut H a i v H' ∧ Q H'
theorem set_dict {X : Cx} (hu : X.A.units + 1 < cLine) : PSet X rSetD := fun pins s σ H o i v ov iv u Q I ro ri rv h => by
  obtain ⟨a, H', rfl, g, q⟩ := h
  cases ro
  exact d_setItem hu I g ri rv fun s4 I4 => ⟨H', I4, q⟩
section
variable {K : PySem.W.Frag} {W : WX} {H0 S0 : Hp} {ad0 : Ad} {S : Hp} {ad : Ad} {tmp : List (V × D)} {ρ : Ro} {μ μ' : Mu} {σ : L2.St} {H : Hp} {u v : V} {d e : D}
theorem NdAt.dr {a : Addr} {kvs : List (Key × D)} (h : NdAt K S ad H a (.dK kvs)) : ∃ ws, H a = some (.dK ws) ∧ DR K S ad ws kvs := let ⟨ws, h1, h2, h3⟩ := h; ⟨ws, h1, .of h2 h3⟩
theorem NdAt.drT {a : Addr} {kvs : List (List Key × D)} (h : NdAt K S ad H a (.dT kvs)) : ∃ ws, H a = some (.dT ws) ∧ DR K S ad ws kvs := let ⟨ws, h1, h2, h3⟩ := h; ⟨ws, h1, .of h2 h3⟩
theorem wrDK {n : Nat} {a : Addr} {kvs : List (Key × D)} {ws : List (Key × V)} (c : Core K H0 S0 ad0 S ad tmp ρ μ σ H) (ha : ad[n]? = some a) (r : DR K S ad ws kvs) : Core K H0 S0 ad0 S ad tmp ρ (μ.set n (.dK kvs)) σ (upd H a (.dK ws)) := c.wr ha ⟨ws, upd_same, r.keys, r.vals⟩
theorem wrDT {n : Nat} {a : Addr} {kvs : List (List Key × D)} {ws : List (List Key × V)} (c : Core K H0 S0 ad0 S ad tmp ρ μ σ H) (ha : ad[n]? = some a) (r : DR K S ad ws kvs) : Core K H0 S0 ad0 S ad tmp ρ (μ.set n (.dT kvs)) σ (upd H a (.dT ws)) := c.wr ha ⟨ws, upd_same, r.keys, r.vals⟩
theorem dPut_at {n : Nat} {a : Addr} (c : Core K H0 S0 ad0 S ad tmp ρ μ σ H) (ha : ad[n]? = some a) (r : Rp K S ad u e) (rv : Rp K S ad v d) (h : dPut μ n e d = some μ') : ∃ H', DPut H a u v H' ∧ Core K H0 S0 ad0 S ad tmp ρ μ' σ H' := by
  unfold dPut at h
  split at h
  · rename_i kvs hm
    obtain ⟨k, h1, h⟩ := Option.bind_eq_some_iff.mp h
    split at h
    · rename_i hl
      cases h
      obtain ⟨ws, g1, g2⟩ := (c.at_ n a _ ha hm).dr
      exact ⟨_, .inl ⟨ws, k, g1, kOf_at r h1, by rw [g2.length]; exact sz_lt hl, rfl⟩, wrDK c ha (g2.put k rv)⟩
    · cases h
  · rename_i kvs hm
    split at h
    · rename_i ds
      obtain ⟨k, h1, h⟩ := Option.bind_eq_some_iff.mp h
      split at h
      · rename_i hl
        cases h
        obtain ⟨ws, g1, g2⟩ := (c.at_ n a _ ha hm).drT
        cases r with
        | tup hs hr =>
          have e1 := ksOf_at hr h1
          subst e1
          exact ⟨_, .inr ⟨ws, k, _, g1, rfl, c.sh _ _ hs, by rw [g2.length]; exact sz_lt hl, rfl⟩, wrDT c ha (g2.put k rv)⟩
      · cases h
    · cases h
  · cases h
theorem simG_dset {to ti : TE} {fo fi : EF} (ho : SimE K W0 to fo) (hi : SimE K W0 ti fi) : SimG K (L2.gSub to ti rSetD) (gDSet fo fi) := ⟨fun {H0 S0 ad0 tmp ρ μ σ H Q v d ρ' μ'} R e k => by
  refine ho.run R ?_
  unfold gDSet at e
  split at e
  · rename_i n μ1 e1
    rw [e1]
    intro w H1 R1
    refine hi.run R1 ?_
    split at e
    · rename_i kk μ2 e2
      rw [e2]
      intro z H2 R2
      obtain ⟨μ3, e3, e4⟩ := Option.map_eq_some_iff.mp e
      cases e4
      obtain ⟨S, ad, c⟩ := R2
      have r2 := c.hd
      have r1 := c.pop.hd
      have r0 := c.pop.pop.hd
      cases r1 with
      | ref ha =>
        rename_i a
        obtain ⟨H', g1, g2⟩ := dPut_at c.pop.pop.pop ha r2 r0 e3
        exact ⟨a, H', rfl, g1, k _ _ ⟨S, ad, g2⟩⟩
    · cases e
  · cases e⟩
end
theorem dg_dset {X : Cx} {o i : Expr} {fo fi : EF} {pos : Pos} (hu : X.A.units + 1 < cLine) (ho : DE X W0 o fo) (hi : DE X W0 i fi) (ha : ∀ v, assign (.Subscript o i pos) X.env v = (do
      let ov ← holding [v] (eval o X.env)
      let iv ← holding [v, ov] (eval i X.env)
      standAt pos
      holding [v, ov, iv] (setItem ov iv v)
      release [v, ov, iv] []) := by intro _; rfl) : DG X (.Subscript o i pos) (gDSet fo fi) := let ⟨_, p1, q1⟩ := ho; let ⟨_, p2, q2⟩ := hi; ⟨_, pg_sub p1 p2 (set_dict hu) ha, simG_dset q1 q2⟩
/-! {}, displays -/
def eNewK : EF := fun _ μ => .val (.ref μ.length) (μ ++ [.dK []])
def eNewT : EF := fun _ μ => .val (.ref μ.length) (μ ++ [.dT []])
section
variable {K : PySem.W.Frag} {W : WX} {H0 S0 : Hp} {ad0 : Ad} {S : Hp} {ad : Ad} {tmp : List (V × D)} {ρ : Ro} {μ μ' : Mu} {σ : L2.St} {H : Hp} {u v : V} {d e : D} {X : Cx} {pos : Pos}
theorem newC {x : Nd} {p : Addr} {o : HO} (c : Core K H0 S0 ad0 S ad tmp ρ μ σ H) (h : H p = none) (hx : NdAt K S (ad ++ [p]) (upd H p o) p x) : Rel K H0 S0 ad0 ((.ref p, .ref μ.length) :: tmp) ρ (μ ++ [x]) σ (upd H p o) :=
  ⟨_, _, (c.cell h hx).push (.ref (by rw [← c.al, List.getElem?_append_right (Nat.le_refl _)]; simp))⟩
theorem de_newK : DE X W (.Dict [] [] pos) eNewK := ⟨_, pe_dnewK, ⟨fun {H0 S0 ad0 tmp ρ μ σ H Q} R k p hp => by
  obtain ⟨S, ad, c⟩ := R
  exact k _ _ (newC c hp ⟨[], upd_same, rfl, .nil⟩)⟩⟩
theorem de_newT : DE X W (.Dict [] [] pos) eNewT := ⟨_, pe_dnewT, ⟨fun {H0 S0 ad0 tmp ρ μ σ H Q} R k p hp => by
  obtain ⟨S, ad, c⟩ := R
  exact k _ _ (newC c hp ⟨[], upd_same, rfl, .nil⟩)⟩⟩
end
end Dn

/-! Dn14: texts: str(n), int(text), text * n, index, walks, is True. -/
namespace Dn
open PySem PySem.Spec PyProof.Rows L2
noncomputable section
/-- a text by its signs -/
abbrev txS (cs : List Nat) : Str := ⟨cs.toArray⟩
abbrev tx (cs : List Nat) : D := .str (txS cs)
theorem txS_tl (x : Str) : txS x.cps.toList = x := by cases x; rfl
theorem txS_inj {a b : List Nat} : txS a = txS b ↔ a = b := ⟨fun h => by
  have := congrArg (fun x : Str => x.cps.toList) h
  simpa using this, fun h => by rw [h]⟩
@[simp] theorem txS_len (a : List Nat) : (txS a).length = a.length := by show a.toArray.size = _; simp
theorem txS_app (a b : List Nat) : txS a ++ txS b = txS (a ++ b) := by
  show (⟨a.toArray ++ b.toArray⟩ : Str) = _
  simp
/-! str(n), int(text) -/
@[simp] def gStr : List D → Mu → Res D := fun ds μ => match ds with
  | [.int i] => if i.natAbs.log2 < 1900 then .val (.str (Str.ofString (toString i))) μ else .fail
  | _ => .fail
@[simp] def gInt : List D → Mu → Res D := fun ds μ => match ds with
  | [.int i] => .val (.int i) μ
  | [.bl k] => .val (.int (if k then 1 else 0)) μ
  | [.str a] => if a.length ≤ 640 then (match PySem.intText? a with
    | some n => .val (.int n) μ
    | none => .fail) else .fail
  | _ => .fail
section
variable {X : Cx} {W : WX} {K : PySem.W.Frag}
theorem cb_str : CbO X W (.type "str") gStr := ⟨_, call_str_int, ⟨fun {H0 S0 ad0 tmp ρ μ σ H Q xs ds} hl R k => by
  obtain ⟨S, ad, c, r⟩ := R.args hl
  unfold gStr at k
  split at k
  · rename_i i
    obtain ⟨v, rfl, rv⟩ := rpL1 r
    cases rv
    split at k
    · rename_i h
      exact ⟨i, rfl, by omega, k _ _ (c.flat (flat_str _))⟩
    · exact k.elim
  · exact k.elim⟩⟩
def rInt : List V → Hp → VK → Prop := fun xs H Q => ((∃ i, xs = [.int i] ∧ Q (.int i) H) ∨ ∃ k, xs = [.bl k] ∧ Q (.int (if k then 1 else 0)) H) ∨ ∃ a n, xs = [.str a] ∧ PySem.intText? a = some n ∧ a.length ≤ 640 ∧ Q (.int n) H
theorem call_intA : CallR X (.type "int") rInt := by
  intro pins s σ H xs us Q I r h
  rcases h with h | h
  · exact call_int1 pins s σ H xs us Q I r h
  · exact call_int_str pins s σ H xs us Q I r h
theorem cb_int : CbO X W (.type "int") gInt := ⟨_, call_intA, ⟨fun {H0 S0 ad0 tmp ρ μ σ H Q xs ds} hl R k => by
  obtain ⟨S, ad, c, r⟩ := R.args hl
  unfold gInt at k
  split at k
  · rename_i i
    obtain ⟨v, rfl, rv⟩ := rpL1 r
    cases rv
    exact .inl (.inl ⟨i, rfl, k _ _ (c.flat (flat_int _))⟩)
  · rename_i b
    obtain ⟨v, rfl, rv⟩ := rpL1 r
    cases rv
    exact .inl (.inr ⟨b, rfl, k _ _ (c.flat (flat_int _))⟩)
  · rename_i a
    obtain ⟨v, rfl, rv⟩ := rpL1 r
    cases rv
    split at k
    · rename_i h
      split at k
      · rename_i n hn
        exact .inr ⟨a, n, rfl, hn, h, k _ _ (c.flat (flat_int _))⟩
      · exact k.elim
    · exact k.elim
  · exact k.elim⟩⟩
/-! is True, is not False -/
def gIsBF (f : Bool → Bool) : GF := fun d e μ => match d, e with
  | .bl a, .bl b => .val (.bl (f (decide (a = b)))) μ
  | _, _ => .fail
def gIsB : GF := gIsBF id
def gNotB : GF := gIsBF not
@[simp] theorem gIsB_bl (a b : Bool) (μ : Mu) : gIsB (.bl a) (.bl b) μ = .val (.bl (decide (a = b))) μ := rfl
@[simp] theorem gNotB_bl (a b : Bool) (μ : Mu) : gNotB (.bl a) (.bl b) μ = .val (.bl (!decide (a = b))) μ := rfl
theorem oc_isB : CmO X W .Is gIsB := ⟨_, op_isBl, ⟨fun {H0 S0 ad0 tmp ρ μ σ H Q x y d e} R k => by
  obtain ⟨S, ad, c, r1, r2⟩ := R.two
  unfold gIsB gIsBF at k
  split at k
  · cases r1; cases r2
    exact ⟨_, _, rfl, rfl, k _ _ (c.flat (flat_bl _))⟩
  · exact k.elim⟩⟩
theorem oc_notB : CmO X W .IsNot gNotB := ⟨_, op_notBl, ⟨fun {H0 S0 ad0 tmp ρ μ σ H Q x y d e} R k => by
  obtain ⟨S, ad, c, r1, r2⟩ := R.two
  unfold gNotB gIsBF at k
  split at k
  · cases r1; cases r2
    exact ⟨_, _, rfl, rfl, k _ _ (c.flat (flat_bl _))⟩
  · exact k.elim⟩⟩
/-! text * n -/
def repT (z : Str) (n : Nat) : Str := txS (List.replicate n z.cps.toList).flatten
def rMulS : R2 := fun x y H Q => ∃ (z : Str) (n : Nat), x = .str z ∧ y = .int (n : Int) ∧ z.length ≤ 100000 ∧ n ≤ 100000 ∧ z.length * n ≤ 100000 ∧ Q (.str (repT z n)) H
theorem foldl_app : ∀ (n : Nat) (a b : Array Nat), (List.replicate n a).foldl (· ++ ·) b = b ++ ((List.replicate n a.toList).flatten).toArray
  | 0, a, b => by simp
  | n + 1, a, b => by
    rw [List.replicate_succ, List.foldl_cons, foldl_app n a (b ++ a), List.replicate_succ, List.flatten_cons]
    rw [Array.append_assoc]
    congr 1
    exact Array.ext' (by simp)
theorem op_mulS : OpR X (binaryOp .Mult) rMulS := by
  intro pins s σ H x y v u Q I rx ry h
  obtain ⟨z, n, rfl, rfl, h1, h2, h3, q⟩ := h
  obtain ⟨t, rfl⟩ := rx
  obtain ⟨t', rfl⟩ := ry
  have hs : sizeLine = 16777216 := sizeLine_eq
  refine PySem.P.mul_str ?_ (fun h4 h5 => ?_) (fun h4 h5 => ?_) ?_
  · rw [decide_eq_false (by omega), decide_eq_false (by omega)]; rfl
  · have hn : (0 : Int) < (n : Int) := by omega
    intro hgt
    have h6 : (2 ^ 63 - 1) / (n : Int) < (z.length : Int) := hgt
    rw [Int.ediv_lt_iff_lt_mul hn] at h6
    have : ((z.length * n : Nat) : Int) ≤ 100000 := by omega
    rw [Int.natCast_mul] at this
    omega
  · rw [Int.toNat_natCast]
    exact decide_eq_false (by rw [hs]; omega)
  · by_cases c1 : (n : Int) < 1
    · rw [if_pos c1]
      have e : n = 0 := by omega
      subst e
      exact ⟨by decide, ⟨.str _, H, I.tok _, ⟨_, rfl⟩, q⟩⟩
    · rw [if_neg c1]
      by_cases c2 : ((n : Int) == 1 || z.length == 0) = true
      · rw [if_pos c2]
        have e : repT z n = z := by
          unfold repT
          simp only [Bool.or_eq_true, beq_iff_eq] at c2
          rcases c2 with c2 | c2
          · have : n = 1 := by omega
            subst this
            simp
          · have e0 : z.cps.toList = [] := by
              have : z.cps.toList.length = 0 := by rw [Array.length_toList]; exact c2
              exact List.eq_nil_of_length_eq_zero this
            rw [← txS_tl z, e0]
            simp
        rw [e] at q
        exact ⟨.str z, H, I, ⟨_, rfl⟩, q⟩
      · rw [if_neg c2]
        have e : (⟨(List.replicate (n : Int).toNat z.cps).foldl (· ++ ·) #[]⟩ : Str) = repT z n := by
          rw [Int.toNat_natCast, foldl_app]
          simp [repT]
        rw [e]
        refine ⟨?_, ⟨.str _, H, I.tok _, ⟨_, rfl⟩, q⟩⟩
        have : (repT z n).length = n * z.length := by
          unfold repT
          rw [txS_len]
          simp
          rfl
        rw [this, hs, Nat.mul_comm]
        omega
def gMulS : GF := fun d e μ => match d, e with
  | .str z, .int k => if 0 ≤ k ∧ k ≤ 100000 ∧ z.length ≤ 100000 ∧ z.length * k.toNat ≤ 100000 then .val (.str (repT z k.toNat)) μ else .fail
  | _, _ => .fail
theorem simO_mulS : SimO K W rMulS gMulS := ⟨fun {H0 S0 ad0 tmp ρ μ σ H Q x y d e} R k => by
  obtain ⟨S, ad, c, r1, r2⟩ := R.two
  unfold gMulS at k
  split at k
  · rename_i z n
    cases r1; cases r2
    split at k
    · rename_i h
      exact ⟨z, n.toNat, rfl, by rw [show ((n.toNat : Nat) : Int) = n by omega], h.2.2.1, by omega, h.2.2.2, k _ _ (c.flat (flat_str _))⟩
    · exact k.elim
  · exact k.elim⟩
def gMulB : GF := orG gMulS gMulA
theorem oo_mulB : OpO X W .Mult gMulB := ⟨_, op_mulS.or (op_mulX.or (op_rep.or (op_repT.or op_rep01))), (simO_mulS).or ((simO_I (fun _ _ h => mulOk_ok h) fun i j => flat_int _).or (simO_repL.or (simO_repT.or simO_rep01)))⟩
@[simp] theorem gMulB_int (i j : Int) (μ : Mu) : gMulB (.int i) (.int j) μ = gMulA (.int i) (.int j) μ := rfl
theorem gMulB_str {z : Str} {k : Int} {μ : Mu} (h0 : 0 ≤ k) (h1 : k ≤ 100000) (h2 : z.length ≤ 100000) (h3 : z.length * k.toNat ≤ 100000) : gMulB (.str z) (.int k) μ = .val (.str (repT z k.toNat)) μ := by
  simp only [gMulB, orG, gMulS, if_pos (show 0 ≤ k ∧ k ≤ 100000 ∧ z.length ≤ 100000 ∧ z.length * k.toNat ≤ 100000 from ⟨h0, h1, h2, h3⟩)]
/-! text.index(sign) -/
@[simp] def gIndex : MF := fun d ds μ => match d, ds with
  | .str a, [.str b] => (match Builtin.Str.occurrences a b 0 a.length 1 with
    | i :: _ => .val (.int (i : Nat)) μ
    | [] => .fail)
  | _, _ => .fail
theorem mo_index : MtO X W "str.index" gIndex := ⟨_, mt_sindex, ⟨fun {H0 S0 ad0 tmp ρ μ σ H Q x d xs ds} hl R k => by
  obtain ⟨S, ad, c, rx, ra⟩ := R.margs hl
  unfold gIndex at k
  split at k
  · rename_i a b
    obtain ⟨v, rfl, rv⟩ := rpL1 ra
    cases rv
    cases rx
    split at k
    · rename_i i r hi
      exact ⟨a, b, i, r, rfl, rfl, hi, k _ _ (c.flat (flat_int _))⟩
    · exact k.elim
  · exact k.elim⟩⟩
/-! for sign in text -/
def signsD (z : Str) : List D := mapD (fun c : Nat => D.str ⟨#[c]⟩) z.cps.toList
theorem jw_str {z : Str} : JW K (Its z) (signsD z) [] := fun {H0 S0 ad0 tmp ρ μ σ H} R i => by
  unfold signsD mapD
  refine ⟨fun d hd => ?_, fun hi => ?_⟩
  · rw [List.getElem?_map] at hd
    obtain ⟨c, hc, rfl⟩ := Option.map_eq_some_iff.mp hd
    have hl := (List.getElem?_eq_some_iff.mp hc).1
    rw [Array.length_toList] at hl
    refine ⟨hl, ?_⟩
    rintro x H' ⟨rfl, c', hc', rfl⟩
    rw [Array.getElem?_toList] at hc
    rw [hc] at hc'
    cases hc'
    exact R.flat (flat_str _)
  · rw [List.length_map, Array.length_toList] at hi
    exact hi
@[simp] def iStrD (f : EF) : AF := fun ρ μ => (f ρ μ).bind fun d μ1 => match d with
  | .str z => .val (signsD z) μ1
  | _ => .fail
theorem di_str {tg iter : Expr} {fe : EF} (he : DE X W iter fe) : DI X W tg iter (iStrD fe) := by
  obtain ⟨t, p1, q1⟩ := he
  refine ⟨_, pi_str p1, ⟨fun {H0 S0 ad0 tmp ρ μ σ H R} r k => ?_⟩⟩
  refine q1.run r ?_
  unfold iStrD at k
  cases e1 : fe ρ μ with
  | fail => rw [e1] at k; exact k.elim
  | exc x μ1 => rw [e1] at k; exact k
  | val d μ1 =>
    rw [e1] at k
    simp only [bind_val] at k
    intro v H1 R1
    split at k
    · rename_i z
      obtain ⟨S, ad, c, rv⟩ := R1.one
      cases rv
      exact ⟨z, rfl, k _ [] _ ⟨S, ad, c⟩ jw_str⟩
    · exact k.elim
end
end
end Dn

namespace P_k01
open PySem PySem.Spec PyProof.Rows L2 Dn
noncomputable section
/-! what each def does -/
def b_is_whole : SF := (sRet (eT (tfAnd (tfB (eCB gIsi (aCons (eVar 0) (aCons (eC (.raw (.ty "int"))) aNil)))) (tfB (eT (tfNot (tfB (eCB gIsi (aCons (eVar 0) (aCons (eC (.raw (.ty "bool"))) aNil))))))))))
def F_is_whole : List D → Mu → Res D := runF 1 b_is_whole
def b_is_among : SF := (sRet (eT (tfAnd (tfB (eCallM 1 F_is_whole (aCons (eVar 0) aNil))) (tfB (eChain gLe gLe (eVar 1) (eVar 0) (eVar 2))))))
def F_is_among : List D → Mu → Res D := runF 3 b_is_among
def b_number_text : SF := (sRet (eCB gStr (aCons (eVar 0) aNil)))
def F_number_text : List D → Mu → Res D := runF 1 b_number_text
def b_number_of_L1 : SF := (sIf (tfB (eOp gNotIn (eVar 1) (eC (.str "0123456789")))) (sRet (eC .non)) sNext)
def b_number_of : SF := (sSeq (sIf (tfNot (tfB (eChain gLe gLe (eC (.int 1)) (eCB gLen (aCons (eVar 0) aNil)) (eC (.int 6))))) (sRet (eC .non)) sNext) (sSeq (sFor (iStrD (eVar 0)) (gN 1) b_number_of_L1) (sSeq (sIf (tfAnd (tfB (eOp gEq (eOp gIx (eVar 0) (eC (.int 0))) (eC (.str "0")))) (tfB (eOp gNe (eVar 0) (eC (.str "0"))))) (sRet (eC .non)) sNext) (sRet (eCB gInt (aCons (eVar 0) aNil))))))
def F_number_of : List D → Mu → Res D := runF 2 b_number_of
def b_l_at : SF := (sSeq (sAsg 2 (eC (.int 0))) (sSeq (sIf (tfB (eOp gLt (eVar 1) (eCB gLen (aCons (eVar 0) aNil)))) (sAsg 2 (eOp gIx (eVar 0) (eVar 1))) sNext) (sRet (eOp gMod (eOp gMulB (eOp gAddA (eOp gAddA (eOp gMod (eVar 2) (eC (.int 1000000007))) (eOp gMulB (eOp gMulB (eC (.int 7919)) (eVar 1)) (eVar 1))) (eC (.int 31))) (eOp gAddA (eC (.int 48271)) (eOp gMulB (eC (.int 2)) (eVar 1)))) (eC (.int 2147483647))))))
def F_l_at : List D → Mu → Res D := runF 3 b_l_at
def b_l_whole : SF := (sRet (eT (tfAnd (tfB (eCB gIsi (aCons (eVar 0) (aCons (eC (.raw (.ty "int"))) aNil)))) (tfB (eT (tfNot (tfB (eCB gIsi (aCons (eVar 0) (aCons (eC (.raw (.ty "bool"))) aNil))))))))))
def F_l_whole : List D → Mu → Res D := runF 1 b_l_whole
def b_l_read_C1 : EF := (eVar 1)
def b_l_read_W1 : TF := (tfB (eOp gNotIn (eVar 1) (eC (.str "0123456789"))))
def b_l_read_L1 : SF := (sAsg 2 (eOp gAddA (eOp gMulB (eVar 2) (eC (.int 10))) (eBM "str" gIndex (eC (.str "0123456789")) (aCons (eVar 1) aNil))))
def b_l_read : SF := (sSeq (sIf (tfOr (tfB (eOp gLt (eCB gLen (aCons (eVar 0) aNil)) (eC (.int 1)))) (tfOr (tfB (eOp gGt (eCB gLen (aCons (eVar 0) aNil)) (eC (.int 6)))) (tfB (eOp gNe (eLc (iStrD (eVar 0)) (gN 1) b_l_read_W1 b_l_read_C1 [1]) (eLst aNil))))) (sRet (eC .non)) sNext) (sSeq (sAsg 2 (eC (.int 0))) (sSeq (sFor (iStrD (eVar 0)) (gN 1) b_l_read_L1) (sSeq (sIf (tfAnd (tfB (eOp gGt (eCB gLen (aCons (eVar 0) aNil)) (eC (.int 1)))) (tfB (eOp gLt (eVar 2) (eOp gIx (eLst (aCons (eC (.int 1)) (aCons (eC (.int 1)) (aCons (eC (.int 10)) (aCons (eC (.int 100)) (aCons (eC (.int 1000)) (aCons (eC (.int 10000)) (aCons (eC (.int 100000)) aNil)))))))) (eCB gLen (aCons (eVar 0) aNil)))))) (sRet (eC .non)) sNext) (sRet (eVar 2))))))
def F_l_read : List D → Mu → Res D := runF 3 b_l_read
def b_l_bent_T1 : SF := (sSeq (sIf (tfB (eOp gEq (eVar 4) (eC (.int 1)))) (sRet (eOp gAddA (eOp gAddA (eSlice (eVar 0) oNone (oSome (eVar 2))) (eVar 3)) (eSlice (eVar 0) (oSome (eOp gAddA (eVar 2) (eC (.int 1)))) oNone))) sNext) (sSeq (sIf (tfB (eOp gEq (eVar 4) (eC (.int 2)))) (sRet (eOp gAddA (eSlice (eVar 0) oNone (oSome (eVar 2))) (eSlice (eVar 0) (oSome (eOp gAddA (eVar 2) (eC (.int 1)))) oNone))) sNext) (sSeq (sIf (tfB (eOp gEq (eVar 4) (eC (.int 3)))) (sRet (eOp gAddA (eC (.str "-")) (eVar 0))) sNext) (sSeq (sIf (tfB (eOp gEq (eVar 4) (eC (.int 4)))) (sRet (eOp gAddA (eOp gMulB (eC (.str "0")) (eOp gMod (eOp gDiv (eVar 1) (eC (.int 7))) (eC (.int 4)))) (eVar 0))) sNext) (sRet (eVar 0))))))
def b_l_bent : SF := (sSeq (sAsg 2 (eOp gMod (eOp gDiv (eVar 1) (eC (.int 7))) (eOp gAddA (eCB gLen (aCons (eVar 0) aNil)) (eC (.int 1))))) (sSeq (sAsg 3 (eOp gIx (eC (.str " -+0123456789a.x:/")) (eOp gMod (eOp gDiv (eVar 1) (eC (.int 77))) (eC (.int 18))))) (sSeq (sAsg 4 (eOp gMod (eVar 1) (eC (.int 7)))) (sSeq (sIf (tfB (eOp gEq (eVar 4) (eC (.int 0)))) (sRet (eOp gAddA (eOp gAddA (eSlice (eVar 0) oNone (oSome (eVar 2))) (eVar 3)) (eSlice (eVar 0) (oSome (eVar 2)) oNone))) sNext) b_l_bent_T1))))
def F_l_bent : List D → Mu → Res D := runF 5 b_l_bent
def b_l_figures_L1 : SF := (sSeq (sAsg 2 (eOp gAddA (eOp gIx (eC (.str "0123456789")) (eOp gMod (eVar 1) (eC (.int 10)))) (eVar 2))) (sAsg 1 (eOp gDiv (eVar 1) (eC (.int 10)))))
def b_l_figures_W1 : TF := (tfOr (tfB (eOp gGt (eVar 1) (eC (.int 0)))) (tfB (eOp gEq (eVar 2) (eC (.str "")))))
def b_l_figures : SF := (sSeq (sAsg 1 (eCB gAbs (aCons (eVar 0) aNil))) (sSeq (sAsg 2 (eC (.str ""))) (sSeq (sWhile FUEL b_l_figures_W1 b_l_figures_L1) (sSeq (sIf (tfB (eOp gLt (eVar 0) (eC (.int 0)))) (sRet (eOp gAddA (eC (.str "-")) (eVar 2))) sNext) (sRet (eVar 2))))))
def F_l_figures : List D → Mu → Res D := runF 3 b_l_figures
def b_l_read_well : SF := (sSeq (sAsg 1 (eCall 1 F_number_of (aCons (eVar 0) aNil))) (sSeq (sAsg 2 (eCall 1 F_l_read (aCons (eVar 0) aNil))) (sSeq (sIf (tfB (eOp gIsN (eVar 2) (eC .non))) (sRet (eOp gIsN (eVar 1) (eC .non))) sNext) (sRet (eT (tfAnd (tfB (eCall 1 F_l_whole (aCons (eVar 1) aNil))) (tfB (eOp gEq (eVar 1) (eVar 2)))))))))
def F_l_read_well : List D → Mu → Res D := runF 3 b_l_read_well
def b_law_L1 : SF := (sSeq (sAsg 8 (eCB gStr (aCons (eOp gMod (eCall 2 F_l_at (aCons (eVar 0) (aCons (eOp gAddA (eC (.int 3)) (eVar 7)) aNil))) (eOp gIx (eLst (aCons (eC (.int 10)) (aCons (eC (.int 1000)) (aCons (eC (.int 1000000)) (aCons (eC (.int 10000000)) aNil))))) (eOp gMod (eVar 7) (eC (.int 4))))) aNil))) (sIf (tfOr (tfNot (tfB (eCall 1 F_l_read_well (aCons (eVar 8) aNil)))) (tfNot (tfB (eCall 1 F_l_read_well (aCons (eCall 2 F_l_bent (aCons (eVar 8) (aCons (eCall 2 F_l_at (aCons (eVar 0) (aCons (eOp gAddA (eC (.int 11)) (eVar 7)) aNil))) aNil))) aNil))))) (sRet (eC (.bl false))) sNext))
def b_law_T1 : SF := (sSeq (sAsg 6 (eOp gIx (eLst (aCons (eC (.bl true)) (aCons (eC (.bl false)) (aCons (eC .non) (aCons (eC (.str "1")) (aCons (eLst (aCons (eC (.int 1)) aNil)) (aCons (eTup (aCons (eC (.int 1)) aNil)) (aCons eNewK (aCons (eVar 3) aNil))))))))) (eOp gMod (eOp gDiv (eVar 1) (eC (.int 1080))) (eC (.int 8))))) (sSeq (sIf (tfOr (tfB (eOp gNotB (eCallM 1 F_is_whole (aCons (eVar 6) aNil)) (eC (.bl false)))) (tfB (eOp gNotB (eCallM 3 F_is_among (aCons (eVar 6) (aCons (eUn gNeg (eC (.int 1))) (aCons (eC (.int 2)) aNil)))) (eC (.bl false))))) (sRet (eC (.bl false))) sNext) (sSeq (sFor (iRange1 (aCons (eC (.int 8)) aNil)) (gN 7) b_law_L1) (sSeq (sIf (tfOr (tfNot (tfB (eCall 1 F_l_read_well (aCons (eC (.str "")) aNil)))) (tfNot (tfB (eCall 1 F_l_read_well (aCons (eOp gMulB (eC (.str "7")) (eC (.int 4000))) aNil))))) (sRet (eC (.bl false))) sNext) (sRet (eT (tfAnd (tfB (eCall 1 F_l_read_well (aCons (eVar 3) aNil))) (tfB (eCallM 3 F_is_among (aCons (eVar 2) (aCons (eVar 2) (aCons (eVar 2) aNil))))))))))))
def b_law_T2 : SF := (sSeq (sAsg 3 (eCall 1 F_number_text (aCons (eVar 2) aNil))) (sSeq (sIf (tfOr (tfNot (tfB (eCB gIsi (aCons (eVar 3) (aCons (eC (.raw (.ty "str"))) aNil))))) (tfB (eOp gNe (eVar 3) (eCall 1 F_l_figures (aCons (eVar 2) aNil))))) (sRet (eC (.bl false))) sNext) (sSeq (sAsg 4 (eOp gMinus (eOp gAddA (eOp gMinus (eVar 2) (eOp gMod (eOp gDiv (eVar 1) (eC (.int 90))) (eC (.int 3)))) (eOp gMod (eCall 2 F_l_at (aCons (eVar 0) (aCons (eC (.int 2)) aNil))) (eC (.int 3)))) (eC (.int 1)))) (sSeq (sAsg 5 (eOp gAddA (eVar 4) (eOp gMod (eOp gDiv (eVar 1) (eC (.int 270))) (eC (.int 4))))) (sSeq (sIf (tfOr (tfB (eOp gNotB (eCallM 1 F_is_whole (aCons (eVar 2) aNil)) (eC (.bl true)))) (tfB (eOp gNe (eCallM 3 F_is_among (aCons (eVar 2) (aCons (eVar 4) (aCons (eVar 5) aNil)))) (eChain gLe gLe (eVar 4) (eVar 2) (eVar 5))))) (sRet (eC (.bl false))) sNext) b_law_T1)))))
def b_law : SF := (sSeq (sAsg 1 (eCall 2 F_l_at (aCons (eVar 0) (aCons (eC (.int 0)) aNil)))) (sSeq (sAsg 2 (eOp gMinus (eCall 2 F_l_at (aCons (eVar 0) (aCons (eC (.int 1)) aNil))) (eC (.int 1000000000)))) (sSeq (sIf (tfB (eOp gEq (eOp gMod (eVar 1) (eC (.int 3))) (eC (.int 1)))) (sAsg 2 (eOp gMod (eVar 2) (eC (.int 1000000)))) sNext) (sSeq (sIf (tfB (eOp gEq (eOp gMod (eVar 1) (eC (.int 3))) (eC (.int 2)))) (sAsg 2 (eOp gMulB (eVar 2) (eOp gIx (eLst (aCons (eC (.int 1)) (aCons (eOp gPow (eC (.int 10)) (eC (.int 3))) (aCons (eOp gPow (eC (.int 10)) (eC (.int 9))) (aCons (eOp gPow (eC (.int 10)) (eC (.int 27))) aNil))))) (eOp gMod (eOp gDiv (eVar 1) (eC (.int 3))) (eC (.int 4)))))) sNext) b_law_T2))))
def F_law : List D → Mu → Res D := runF 9 b_law
end
end P_k01

namespace P_k01
open PySem PySem.Spec PyProof.Rows L2 Dn
/-! the text by places -/
def top (i : Nat) : Stmt := PySem.Challenge.pw_floorways_k01_words.main.body.getD i (.Pass ⟨0, 0, 0, 0⟩)
abbrev s_is_whole : Stmt := top 2
abbrev s_is_among : Stmt := top 3
abbrev s_number_text : Stmt := top 4
abbrev s_number_of : Stmt := top 5
abbrev s_l_at : Stmt := top 7
abbrev s_l_whole : Stmt := top 8
abbrev s_l_read : Stmt := top 9
abbrev s_l_bent : Stmt := top 10
abbrev s_l_figures : Stmt := top 11
abbrev s_l_read_well : Stmt := top 12
abbrev s_law : Stmt := top 13
/-! the facts of the top -/
structure Tx (K : PySem.W.Frag) (mg : Str → Option Value) (ad : Nat → Addr) (fd : Nat → FuncData) (tk : Nat → Tok) : Prop where
  f_is_whole : Fun K "is_whole" "is_whole" s_is_whole (ad 0) (fd 0)
  m_is_whole : mg "is_whole" = some (.ref (ad 0))
  b_is_whole : Binds K (fd 0) ["thing"] []
  f_is_among : Fun K "is_among" "is_among" s_is_among (ad 1) (fd 1)
  m_is_among : mg "is_among" = some (.ref (ad 1))
  b_is_among : Binds K (fd 1) ["thing", "least", "most"] []
  f_number_text : Fun K "number_text" "number_text" s_number_text (ad 2) (fd 2)
  m_number_text : mg "number_text" = some (.ref (ad 2))
  b_number_text : Binds K (fd 2) ["number"] []
  f_number_of : Fun K "number_of" "number_of" s_number_of (ad 3) (fd 3)
  m_number_of : mg "number_of" = some (.ref (ad 3))
  b_number_of : Binds K (fd 3) ["text"] []
  f_l_at : Fun K "_law_at" "_law_at" s_l_at (ad 4) (fd 4)
  m_l_at : mg "_law_at" = some (.ref (ad 4))
  b_l_at : Binds K (fd 4) ["_law_script", "_law_k"] []
  f_l_whole : Fun K "_law_whole" "_law_whole" s_l_whole (ad 5) (fd 5)
  m_l_whole : mg "_law_whole" = some (.ref (ad 5))
  b_l_whole : Binds K (fd 5) ["_law_thing"] []
  f_l_read : Fun K "_law_read" "_law_read" s_l_read (ad 6) (fd 6)
  m_l_read : mg "_law_read" = some (.ref (ad 6))
  b_l_read : Binds K (fd 6) ["_law_text"] []
  f_l_bent : Fun K "_law_bent" "_law_bent" s_l_bent (ad 7) (fd 7)
  m_l_bent : mg "_law_bent" = some (.ref (ad 7))
  b_l_bent : Binds K (fd 7) ["_law_text", "_law_cell"] []
  f_l_figures : Fun K "_law_figures" "_law_figures" s_l_figures (ad 8) (fd 8)
  m_l_figures : mg "_law_figures" = some (.ref (ad 8))
  b_l_figures : Binds K (fd 8) ["_law_number"] []
  f_l_read_well : Fun K "_law_read_well" "_law_read_well" s_l_read_well (ad 9) (fd 9)
  m_l_read_well : mg "_law_read_well" = some (.ref (ad 9))
  b_l_read_well : Binds K (fd 9) ["_law_text"] []
  f_law : Fun K "law" "law" s_law (ad 10) (fd 10)
  m_law : mg "law" = some (.ref (ad 10))
  b_law : Binds K (fd 10) ["_law_script"] []
  c_MOST_FIGURES : mg "MOST_FIGURES" = some (.int 6 (tk 0))
  z_isinstance : mg "isinstance" = none
  z_int : mg "int" = none
  z_bool : mg "bool" = none
  z_str : mg "str" = none
  z_len : mg "len" = none
  z_abs : mg "abs" = none
  z_range : mg "range" = none
/-! each def keeps its promise -/
section
variable {P : Program} {w : World} {K : PySem.W.Frag} {mg : Str → Option Value} {base : Heap} {ad : Nat → Addr} {fd : Nat → FuncData} {tk : Nat → Tok}
theorem sc_is_whole : FnScope ["thing"] ["thing"] (defScope s_is_whole) := ⟨rfl, rfl, rfl, by decide +kernel, rfl, by decide +kernel, by decide +kernel⟩
theorem ok_is_whole (T : Tx K mg ad fd tk) : FnOk P w K mg base CX0 1 (ad 0) (fd 0) ["thing"] (spN K 1 F_is_whole) :=
  fnN (N := ["thing"]) (b := b_is_whole) T.f_is_whole sc_is_whole fun cdv A outer s H E hr => by
    exact (dss_one (ds_ret (de_and (de_cb (cb_isi) rfl T.z_isinstance (by decide +kernel) (da_cons (de_var 0) (da_cons (de_ty (T := "int") rfl T.z_int (by decide +kernel)) da_nil))) (de_one (de_not (de_cb (cb_isi) rfl T.z_isinstance (by decide +kernel) (da_cons (de_var 0) (da_cons (de_ty (T := "bool") rfl T.z_bool (by decide +kernel)) da_nil))))))))
theorem sc_is_among : FnScope ["thing", "least", "most"] ["thing", "least", "most"] (defScope s_is_among) := ⟨rfl, rfl, rfl, by decide +kernel, rfl, by decide +kernel, by decide +kernel⟩
theorem ok_is_among (T : Tx K mg ad fd tk) : FnOk P w K mg base CX0 2 (ad 1) (fd 1) ["thing", "least", "most"] (spN K 3 F_is_among) :=
  fnN (N := ["thing", "least", "most"]) (b := b_is_among) T.f_is_among sc_is_among fun cdv A outer s H E hr => by
    exact (dss_one (ds_ret (de_and (de_callM (ok_is_whole T) (hr.mono (by decide)) rfl T.m_is_whole T.f_is_whole.kp T.b_is_whole (da_cons (de_var 0) da_nil)) (de_one (de_chain oc_le oc_le (de_var 1) (de_var 0) (de_var 2))))))
theorem sc_number_text : FnScope ["number"] ["number"] (defScope s_number_text) := ⟨rfl, rfl, rfl, by decide +kernel, rfl, by decide +kernel, by decide +kernel⟩
theorem ok_number_text (T : Tx K mg ad fd tk) : FnOk P w K mg base CX0 1 (ad 2) (fd 2) ["number"] (spN K 1 F_number_text) :=
  fnN (N := ["number"]) (b := b_number_text) T.f_number_text sc_number_text fun cdv A outer s H E hr => by
    exact (dss_one (ds_ret (de_ct cb_str rfl T.z_str (by decide +kernel) (da_cons (de_var 0) da_nil))))
theorem sc_number_of : FnScope ["text", "sign"] ["text"] (defScope s_number_of) := ⟨rfl, rfl, rfl, by decide +kernel, rfl, by decide +kernel, by decide +kernel⟩
theorem ok_number_of (T : Tx K mg ad fd tk) : FnOk P w K mg base CX0 1 (ad 3) (fd 3) ["text"] (spN K 1 F_number_of) :=
  fnN (N := ["text", "sign"]) (b := b_number_of) T.f_number_of sc_number_of fun cdv A outer s H E hr => by
    exact (dss_cons (ds_if (dt_not (dt_chain oc_le oc_le de_int (de_cb (cb_len) rfl T.z_len (by decide +kernel) (da_cons (de_var 0) da_nil)) (de_globI rfl T.c_MOST_FIGURES))) (dss_one (ds_ret de_non)) dss_nil) (dss_cons (ds_for PassesOwn.never rfl (di_str (de_var 0)) (dg_n 1 sc_number_of.nd) (dss_one (ds_if (dt_cmp oc_notin (de_var 1) de_str) (dss_one (ds_ret de_non)) dss_nil))) (dss_cons (ds_if (dt_w (dw_and (dt_cmp (oc_eq hr.units) (de_ix (de_var 0) de_int) de_str) (dw_and1 (dt_cmp (oc_ne hr.units) (de_var 0) de_str)))) (dss_one (ds_ret de_non)) dss_nil) (dss_one (ds_ret (de_ct cb_int rfl T.z_int (by decide +kernel) (da_cons (de_var 0) da_nil)))))))
theorem sc_l_at : FnScope ["_law_script", "_law_k", "_law_cell"] ["_law_script", "_law_k"] (defScope s_l_at) := ⟨rfl, rfl, rfl, by decide +kernel, rfl, by decide +kernel, by decide +kernel⟩
theorem ok_l_at (T : Tx K mg ad fd tk) : FnOk P w K mg base CX0 1 (ad 4) (fd 4) ["_law_script", "_law_k"] (spN K 2 F_l_at) :=
  fnN (N := ["_law_script", "_law_k", "_law_cell"]) (b := b_l_at) T.f_l_at sc_l_at fun cdv A outer s H E hr => by
    exact (dss_cons (ds_set 2 sc_l_at.nd de_int) (dss_cons (ds_if (dt_cmp oc_lt (de_var 1) (de_cb (cb_len) rfl T.z_len (by decide +kernel) (da_cons (de_var 0) da_nil))) (dss_one (ds_set 2 sc_l_at.nd (de_ix (de_var 0) (de_var 1)))) dss_nil) (dss_one (ds_ret (de_op oo_mod (de_op oo_mulB (de_op oo_addA (de_op oo_addA (de_op oo_mod (de_var 2) de_int) (de_op oo_mulB (de_op oo_mulB de_int (de_var 1)) (de_var 1))) de_int) (de_op oo_addA de_int (de_op oo_mulB de_int (de_var 1)))) de_int)))))
theorem sc_l_whole : FnScope ["_law_thing"] ["_law_thing"] (defScope s_l_whole) := ⟨rfl, rfl, rfl, by decide +kernel, rfl, by decide +kernel, by decide +kernel⟩
theorem ok_l_whole (T : Tx K mg ad fd tk) : FnOk P w K mg base CX0 1 (ad 5) (fd 5) ["_law_thing"] (spN K 1 F_l_whole) :=
  fnN (N := ["_law_thing"]) (b := b_l_whole) T.f_l_whole sc_l_whole fun cdv A outer s H E hr => by
    exact (dss_one (ds_ret (de_and (de_cb (cb_isi) rfl T.z_isinstance (by decide +kernel) (da_cons (de_var 0) (da_cons (de_ty (T := "int") rfl T.z_int (by decide +kernel)) da_nil))) (de_one (de_not (de_cb (cb_isi) rfl T.z_isinstance (by decide +kernel) (da_cons (de_var 0) (da_cons (de_ty (T := "bool") rfl T.z_bool (by decide +kernel)) da_nil))))))))
theorem sc_l_read : FnScope ["_law_text", "_law_sign", "_law_found"] ["_law_text"] (defScope s_l_read) := ⟨rfl, rfl, rfl, by decide +kernel, rfl, by decide +kernel, by decide +kernel⟩
theorem ok_l_read (T : Tx K mg ad fd tk) : FnOk P w K mg base CX0 1 (ad 6) (fd 6) ["_law_text"] (spN K 1 F_l_read) :=
  fnN (N := ["_law_text", "_law_sign", "_law_found"]) (b := b_l_read) T.f_l_read sc_l_read fun cdv A outer s H E hr => by
    exact (dss_cons (ds_if (dt_w (dw_or (dt_cmp oc_lt (de_cb (cb_len) rfl T.z_len (by decide +kernel) (da_cons (de_var 0) da_nil)) de_int) (dw_or (dt_cmp oc_gt (de_cb (cb_len) rfl T.z_len (by decide +kernel) (da_cons (de_var 0) da_nil)) de_int) (dw_or1 (dt_cmp (oc_ne hr.units) (de_lcG (own := [("_law_sign", 1)]) fin_lc rfl sc_l_read.nd (di_str (de_var 0)) (blkOk_by (own := [("_law_sign", 1)]) (N := ["_law_text", "_law_sign", "_law_found"]) (sc := defScope s_l_read) (by decide +kernel)) (fun _ _ _ _ _ => (dw1_n 1 sc_l_read.nd)) (fun _ _ _ _ _ => (dts_one (dt_cmp oc_notin (de_var 1) de_str))) (fun _ _ _ _ _ => (de_var 1))) (de_lst da_nil)))))) (dss_one (ds_ret de_non)) dss_nil) (dss_cons (ds_set 2 sc_l_read.nd de_int) (dss_cons (ds_for PassesOwn.never rfl (di_str (de_var 0)) (dg_n 1 sc_l_read.nd) (dss_one (ds_set 2 sc_l_read.nd (de_op oo_addA (de_op oo_mulB (de_var 2) de_int) (de_bm PySem.F.plainAttrs_str PySem.F.slot_str_index PySem.F.type_str_index mo_index de_str (da_cons (de_var 1) da_nil)))))) (dss_cons (ds_if (dt_w (dw_and (dt_cmp oc_gt (de_cb (cb_len) rfl T.z_len (by decide +kernel) (da_cons (de_var 0) da_nil)) de_int) (dw_and1 (dt_cmp oc_lt (de_var 2) (de_ix (de_lst (da_cons de_int (da_cons de_int (da_cons de_int (da_cons de_int (da_cons de_int (da_cons de_int (da_cons de_int da_nil)))))))) (de_cb (cb_len) rfl T.z_len (by decide +kernel) (da_cons (de_var 0) da_nil))))))) (dss_one (ds_ret de_non)) dss_nil) (dss_one (ds_ret (de_var 2)))))))
theorem sc_l_bent : FnScope ["_law_text", "_law_cell", "_law_at_here", "_law_sign", "_law_way"] ["_law_text", "_law_cell"] (defScope s_l_bent) := ⟨rfl, rfl, rfl, by decide +kernel, rfl, by decide +kernel, by decide +kernel⟩
theorem ok_l_bent (T : Tx K mg ad fd tk) : FnOk P w K mg base CX0 1 (ad 7) (fd 7) ["_law_text", "_law_cell"] (spN K 2 F_l_bent) :=
  fnN (N := ["_law_text", "_law_cell", "_law_at_here", "_law_sign", "_law_way"]) (b := b_l_bent) T.f_l_bent sc_l_bent fun cdv A outer s H E hr => by
    exact (dss_cons (ds_set 2 sc_l_bent.nd (de_op oo_mod (de_op oo_div (de_var 1) de_int) (de_op oo_addA (de_cb (cb_len) rfl T.z_len (by decide +kernel) (da_cons (de_var 0) da_nil)) de_int))) (dss_cons (ds_set 3 sc_l_bent.nd (de_ix de_str (de_op oo_mod (de_op oo_div (de_var 1) de_int) de_int))) (dss_cons (ds_set 4 sc_l_bent.nd (de_op oo_mod (de_var 1) de_int)) (dss_cons (ds_if (dt_cmp (oc_eq hr.units) (de_var 4) de_int) (dss_one (ds_ret (de_op oo_addA (de_op oo_addA (de_slice (de_var 0) do_none (do_some (de_var 2))) (de_var 3)) (de_slice (de_var 0) (do_some (de_var 2)) do_none)))) dss_nil) (dss_cons (ds_if (dt_cmp (oc_eq hr.units) (de_var 4) de_int) (dss_one (ds_ret (de_op oo_addA (de_op oo_addA (de_slice (de_var 0) do_none (do_some (de_var 2))) (de_var 3)) (de_slice (de_var 0) (do_some (de_op oo_addA (de_var 2) de_int)) do_none)))) dss_nil) (dss_cons (ds_if (dt_cmp (oc_eq hr.units) (de_var 4) de_int) (dss_one (ds_ret (de_op oo_addA (de_slice (de_var 0) do_none (do_some (de_var 2))) (de_slice (de_var 0) (do_some (de_op oo_addA (de_var 2) de_int)) do_none)))) dss_nil) (dss_cons (ds_if (dt_cmp (oc_eq hr.units) (de_var 4) de_int) (dss_one (ds_ret (de_op oo_addA de_str (de_var 0)))) dss_nil) (dss_cons (ds_if (dt_cmp (oc_eq hr.units) (de_var 4) de_int) (dss_one (ds_ret (de_op oo_addA (de_op oo_mulB de_str (de_op oo_mod (de_op oo_div (de_var 1) de_int) de_int)) (de_var 0)))) dss_nil) (dss_one (ds_ret (de_var 0)))))))))))
theorem sc_l_figures : FnScope ["_law_number", "_law_left", "_law_text"] ["_law_number"] (defScope s_l_figures) := ⟨rfl, rfl, rfl, by decide +kernel, rfl, by decide +kernel, by decide +kernel⟩
theorem ok_l_figures (T : Tx K mg ad fd tk) : FnOk P w K mg base CX0 1 (ad 8) (fd 8) ["_law_number"] (spN K 1 F_l_figures) :=
  fnN (N := ["_law_number", "_law_left", "_law_text"]) (b := b_l_figures) T.f_l_figures sc_l_figures fun cdv A outer s H E hr => by
    exact (dss_cons (ds_set 1 sc_l_figures.nd (de_cb (cb_abs) rfl T.z_abs (by decide +kernel) (da_cons (de_var 0) da_nil))) (dss_cons (ds_set 2 sc_l_figures.nd de_str) (dss_cons (ds_while FUEL PassesOwn.never (dt_w (dw_or (dt_cmp oc_gt (de_var 1) de_int) (dw_or1 (dt_cmp (oc_eq hr.units) (de_var 2) de_str)))) (dss_cons (ds_set 2 sc_l_figures.nd (de_op oo_addA (de_ix de_str (de_op oo_mod (de_var 1) de_int)) (de_var 2))) (dss_one (ds_set 1 sc_l_figures.nd (de_op oo_div (de_var 1) de_int))))) (dss_cons (ds_if (dt_cmp oc_lt (de_var 0) de_int) (dss_one (ds_ret (de_op oo_addA de_str (de_var 2)))) dss_nil) (dss_one (ds_ret (de_var 2)))))))
theorem sc_l_read_well : FnScope ["_law_text", "_law_found", "_law_due"] ["_law_text"] (defScope s_l_read_well) := ⟨rfl, rfl, rfl, by decide +kernel, rfl, by decide +kernel, by decide +kernel⟩
theorem ok_l_read_well (T : Tx K mg ad fd tk) : FnOk P w K mg base CX0 2 (ad 9) (fd 9) ["_law_text"] (spN K 1 F_l_read_well) :=
  fnN (N := ["_law_text", "_law_found", "_law_due"]) (b := b_l_read_well) T.f_l_read_well sc_l_read_well fun cdv A outer s H E hr => by
    exact (dss_cons (ds_set 1 sc_l_read_well.nd (de_call (ok_number_of T) (hr.mono (by decide)) rfl T.m_number_of T.f_number_of.kp T.b_number_of (da_cons (de_var 0) da_nil))) (dss_cons (ds_set 2 sc_l_read_well.nd (de_call (ok_l_read T) (hr.mono (by decide)) rfl T.m_l_read T.f_l_read.kp T.b_l_read (da_cons (de_var 0) da_nil))) (dss_cons (ds_if (dt_cmp oc_is (de_var 2) de_non) (dss_one (ds_ret (de_cmp oc_is (de_var 1) de_non))) dss_nil) (dss_one (ds_ret (de_and (de_call (ok_l_whole T) (hr.mono (by decide)) rfl T.m_l_whole T.f_l_whole.kp T.b_l_whole (da_cons (de_var 1) da_nil)) (de_one (de_cmp (oc_eq hr.units) (de_var 1) (de_var 2)))))))))
theorem sc_law : FnScope ["_law_script", "_law_cell", "_law_number", "_law_told", "_law_low", "_law_high", "_law_thing", "_law_k", "_law_text"] ["_law_script"] (defScope s_law) := ⟨rfl, rfl, rfl, by decide +kernel, rfl, by decide +kernel, by decide +kernel⟩
theorem ok_law (T : Tx K mg ad fd tk) : FnOk P w K mg base CX0 3 (ad 10) (fd 10) ["_law_script"] (spN K 1 F_law) :=
  fnN (N := ["_law_script", "_law_cell", "_law_number", "_law_told", "_law_low", "_law_high", "_law_thing", "_law_k", "_law_text"]) (b := b_law) T.f_law sc_law fun cdv A outer s H E hr => by
    exact (dss_cons (ds_set 1 sc_law.nd (de_call (ok_l_at T) (hr.mono (by decide)) rfl T.m_l_at T.f_l_at.kp T.b_l_at (da_cons (de_var 0) (da_cons de_int da_nil)))) (dss_cons (ds_set 2 sc_law.nd (de_op oo_sub (de_call (ok_l_at T) (hr.mono (by decide)) rfl T.m_l_at T.f_l_at.kp T.b_l_at (da_cons (de_var 0) (da_cons de_int da_nil))) de_int)) (dss_cons (ds_if (dt_cmp (oc_eq hr.units) (de_op oo_mod (de_var 1) de_int) de_int) (dss_one (ds_set 2 sc_law.nd (de_op oo_mod (de_var 2) de_int))) dss_nil) (dss_cons (ds_if (dt_cmp (oc_eq hr.units) (de_op oo_mod (de_var 1) de_int) de_int) (dss_one (ds_set 2 sc_law.nd (de_op oo_mulB (de_var 2) (de_ix (de_lst (da_cons de_int (da_cons (de_op oo_pow de_int de_int) (da_cons (de_op oo_pow de_int de_int) (da_cons (de_op oo_pow de_int de_int) da_nil))))) (de_op oo_mod (de_op oo_div (de_var 1) de_int) de_int))))) dss_nil) (dss_cons (ds_set 3 sc_law.nd (de_call (ok_number_text T) (hr.mono (by decide)) rfl T.m_number_text T.f_number_text.kp T.b_number_text (da_cons (de_var 2) da_nil))) (dss_cons (ds_if (dt_w (dw_or (dt_not (dt_val (de_cb (cb_isi) rfl T.z_isinstance (by decide +kernel) (da_cons (de_var 3) (da_cons (de_ty (T := "str") rfl T.z_str (by decide +kernel)) da_nil))))) (dw_or1 (dt_cmp (oc_ne hr.units) (de_var 3) (de_call (ok_l_figures T) (hr.mono (by decide)) rfl T.m_l_figures T.f_l_figures.kp T.b_l_figures (da_cons (de_var 2) da_nil)))))) (dss_one (ds_ret de_bl)) dss_nil) (dss_cons (ds_set 4 sc_law.nd (de_op oo_sub (de_op oo_addA (de_op oo_sub (de_var 2) (de_op oo_mod (de_op oo_div (de_var 1) de_int) de_int)) (de_op oo_mod (de_call (ok_l_at T) (hr.mono (by decide)) rfl T.m_l_at T.f_l_at.kp T.b_l_at (da_cons (de_var 0) (da_cons de_int da_nil))) de_int)) de_int)) (dss_cons (ds_set 5 sc_law.nd (de_op oo_addA (de_var 4) (de_op oo_mod (de_op oo_div (de_var 1) de_int) de_int))) (dss_cons (ds_if (dt_w (dw_or (dt_cmp oc_notB (de_callM (ok_is_whole T) (hr.mono (by decide)) rfl T.m_is_whole T.f_is_whole.kp T.b_is_whole (da_cons (de_var 2) da_nil)) de_bl) (dw_or1 (dt_cmp (oc_ne hr.units) (de_callM (ok_is_among T) (hr.mono (by decide)) rfl T.m_is_among T.f_is_among.kp T.b_is_among (da_cons (de_var 2) (da_cons (de_var 4) (da_cons (de_var 5) da_nil)))) (de_chain oc_le oc_le (de_var 4) (de_var 2) (de_var 5)))))) (dss_one (ds_ret de_bl)) dss_nil) (dss_cons (ds_set 6 sc_law.nd (de_ix (de_lst (da_cons de_bl (da_cons de_bl (da_cons de_non (da_cons de_str (da_cons (de_lst (da_cons de_int da_nil)) (da_cons (de_tup (da_cons de_int da_nil)) (da_cons de_newK (da_cons (de_var 3) da_nil))))))))) (de_op oo_mod (de_op oo_div (de_var 1) de_int) de_int))) (dss_cons (ds_if (dt_w (dw_or (dt_cmp oc_notB (de_callM (ok_is_whole T) (hr.mono (by decide)) rfl T.m_is_whole T.f_is_whole.kp T.b_is_whole (da_cons (de_var 6) da_nil)) de_bl) (dw_or1 (dt_cmp oc_notB (de_callM (ok_is_among T) (hr.mono (by decide)) rfl T.m_is_among T.f_is_among.kp T.b_is_among (da_cons (de_var 6) (da_cons (de_un ou_neg de_int) (da_cons de_int da_nil)))) de_bl)))) (dss_one (ds_ret de_bl)) dss_nil) (dss_cons (ds_for PassesOwn.never rfl (di_range1 rfl T.z_range (da_cons de_int da_nil)) (dg_n 7 sc_law.nd) (dss_cons (ds_set 8 sc_law.nd (de_ct cb_str rfl T.z_str (by decide +kernel) (da_cons (de_op oo_mod (de_call (ok_l_at T) (hr.mono (by decide)) rfl T.m_l_at T.f_l_at.kp T.b_l_at (da_cons (de_var 0) (da_cons (de_op oo_addA de_int (de_var 7)) da_nil))) (de_ix (de_lst (da_cons de_int (da_cons de_int (da_cons de_int (da_cons de_int da_nil))))) (de_op oo_mod (de_var 7) de_int))) da_nil))) (dss_one (ds_if (dt_w (dw_or (dt_not (dt_val (de_call (ok_l_read_well T) (hr.mono (by decide)) rfl T.m_l_read_well T.f_l_read_well.kp T.b_l_read_well (da_cons (de_var 8) da_nil)))) (dw_or1 (dt_not (dt_val (de_call (ok_l_read_well T) (hr.mono (by decide)) rfl T.m_l_read_well T.f_l_read_well.kp T.b_l_read_well (da_cons (de_call (ok_l_bent T) (hr.mono (by decide)) rfl T.m_l_bent T.f_l_bent.kp T.b_l_bent (da_cons (de_var 8) (da_cons (de_call (ok_l_at T) (hr.mono (by decide)) rfl T.m_l_at T.f_l_at.kp T.b_l_at (da_cons (de_var 0) (da_cons (de_op oo_addA de_int (de_var 7)) da_nil))) da_nil))) da_nil))))))) (dss_one (ds_ret de_bl)) dss_nil)))) (dss_cons (ds_if (dt_w (dw_or (dt_not (dt_val (de_call (ok_l_read_well T) (hr.mono (by decide)) rfl T.m_l_read_well T.f_l_read_well.kp T.b_l_read_well (da_cons de_str da_nil)))) (dw_or1 (dt_not (dt_val (de_call (ok_l_read_well T) (hr.mono (by decide)) rfl T.m_l_read_well T.f_l_read_well.kp T.b_l_read_well (da_cons (de_op oo_mulB de_str de_int) da_nil))))))) (dss_one (ds_ret de_bl)) dss_nil) (dss_one (ds_ret (de_and (de_call (ok_l_read_well T) (hr.mono (by decide)) rfl T.m_l_read_well T.f_l_read_well.kp T.b_l_read_well (da_cons (de_var 3) da_nil)) (de_one (de_callM (ok_is_among T) (hr.mono (by decide)) rfl T.m_is_among T.f_is_among.kp T.b_is_among (da_cons (de_var 2) (da_cons (de_var 2) (da_cons (de_var 2) da_nil)))))))))))))))))))))
end
/-! the top -/
theorem all_mk {K : PySem.W.Frag} {h : Heap} {mg : Str → Option Value} (X : K.In h) (G : h.Ns mainGlobals mg)
    {f0 f1 f2 f3 f4 f5 f6 f7 f8 f9 f10 : Addr} {od0 an0 od1 an1 od2 an2 od3 an3 od4 an4 od5 an5 od6 an6 od7 an7 od8 an8 od9 an9 od10 an10 : Option Addr} {sl0 sl1 sl2 sl3 sl4 sl5 sl6 sl7 sl8 sl9 sl10 : Array (Option Value)} {oc0 kV0 dc0 pm0 cd0 ct0 oc1 kV1 dc1 pm1 cd1 ct1 oc2 kV2 dc2 pm2 cd2 ct2 oc3 kV3 dc3 pm3 cd3 ct3 oc4 kV4 dc4 pm4 cd4 ct4 oc5 kV5 dc5 pm5 cd5 ct5 oc6 kV6 dc6 pm6 cd6 ct6 oc7 kV7 dc7 pm7 cd7 ct7 oc8 kV8 dc8 pm8 cd8 ct8 oc9 kV9 dc9 pm9 cd9 ct9 oc10 kV10 dc10 pm10 cd10 ct10 : Value}
    {tk0 : Tok}
    (a0 : PySem.W.nsIn K mainGlobals "is_whole" = some (some (.ref f0))) (l0 : K.lookup f0 = some ⟨oc0, od0, .func (PySem.W.fnOf "is_whole" "is_whole" (defArgs s_is_whole) (defBody s_is_whole) (defScope s_is_whole) .none kV0 dc0 pm0 an0 cd0 ct0), sl0⟩) (c0 : PySem.W.codeIn K cd0 "is_whole" = true) (k0 : PySem.W.keepIn K (.ref f0) = true)
    (a1 : PySem.W.nsIn K mainGlobals "is_among" = some (some (.ref f1))) (l1 : K.lookup f1 = some ⟨oc1, od1, .func (PySem.W.fnOf "is_among" "is_among" (defArgs s_is_among) (defBody s_is_among) (defScope s_is_among) .none kV1 dc1 pm1 an1 cd1 ct1), sl1⟩) (c1 : PySem.W.codeIn K cd1 "is_among" = true) (k1 : PySem.W.keepIn K (.ref f1) = true)
    (a2 : PySem.W.nsIn K mainGlobals "number_text" = some (some (.ref f2))) (l2 : K.lookup f2 = some ⟨oc2, od2, .func (PySem.W.fnOf "number_text" "number_text" (defArgs s_number_text) (defBody s_number_text) (defScope s_number_text) .none kV2 dc2 pm2 an2 cd2 ct2), sl2⟩) (c2 : PySem.W.codeIn K cd2 "number_text" = true) (k2 : PySem.W.keepIn K (.ref f2) = true)
    (a3 : PySem.W.nsIn K mainGlobals "number_of" = some (some (.ref f3))) (l3 : K.lookup f3 = some ⟨oc3, od3, .func (PySem.W.fnOf "number_of" "number_of" (defArgs s_number_of) (defBody s_number_of) (defScope s_number_of) .none kV3 dc3 pm3 an3 cd3 ct3), sl3⟩) (c3 : PySem.W.codeIn K cd3 "number_of" = true) (k3 : PySem.W.keepIn K (.ref f3) = true)
    (a4 : PySem.W.nsIn K mainGlobals "_law_at" = some (some (.ref f4))) (l4 : K.lookup f4 = some ⟨oc4, od4, .func (PySem.W.fnOf "_law_at" "_law_at" (defArgs s_l_at) (defBody s_l_at) (defScope s_l_at) .none kV4 dc4 pm4 an4 cd4 ct4), sl4⟩) (c4 : PySem.W.codeIn K cd4 "_law_at" = true) (k4 : PySem.W.keepIn K (.ref f4) = true)
    (a5 : PySem.W.nsIn K mainGlobals "_law_whole" = some (some (.ref f5))) (l5 : K.lookup f5 = some ⟨oc5, od5, .func (PySem.W.fnOf "_law_whole" "_law_whole" (defArgs s_l_whole) (defBody s_l_whole) (defScope s_l_whole) .none kV5 dc5 pm5 an5 cd5 ct5), sl5⟩) (c5 : PySem.W.codeIn K cd5 "_law_whole" = true) (k5 : PySem.W.keepIn K (.ref f5) = true)
    (a6 : PySem.W.nsIn K mainGlobals "_law_read" = some (some (.ref f6))) (l6 : K.lookup f6 = some ⟨oc6, od6, .func (PySem.W.fnOf "_law_read" "_law_read" (defArgs s_l_read) (defBody s_l_read) (defScope s_l_read) .none kV6 dc6 pm6 an6 cd6 ct6), sl6⟩) (c6 : PySem.W.codeIn K cd6 "_law_read" = true) (k6 : PySem.W.keepIn K (.ref f6) = true)
    (a7 : PySem.W.nsIn K mainGlobals "_law_bent" = some (some (.ref f7))) (l7 : K.lookup f7 = some ⟨oc7, od7, .func (PySem.W.fnOf "_law_bent" "_law_bent" (defArgs s_l_bent) (defBody s_l_bent) (defScope s_l_bent) .none kV7 dc7 pm7 an7 cd7 ct7), sl7⟩) (c7 : PySem.W.codeIn K cd7 "_law_bent" = true) (k7 : PySem.W.keepIn K (.ref f7) = true)
    (a8 : PySem.W.nsIn K mainGlobals "_law_figures" = some (some (.ref f8))) (l8 : K.lookup f8 = some ⟨oc8, od8, .func (PySem.W.fnOf "_law_figures" "_law_figures" (defArgs s_l_figures) (defBody s_l_figures) (defScope s_l_figures) .none kV8 dc8 pm8 an8 cd8 ct8), sl8⟩) (c8 : PySem.W.codeIn K cd8 "_law_figures" = true) (k8 : PySem.W.keepIn K (.ref f8) = true)
    (a9 : PySem.W.nsIn K mainGlobals "_law_read_well" = some (some (.ref f9))) (l9 : K.lookup f9 = some ⟨oc9, od9, .func (PySem.W.fnOf "_law_read_well" "_law_read_well" (defArgs s_l_read_well) (defBody s_l_read_well) (defScope s_l_read_well) .none kV9 dc9 pm9 an9 cd9 ct9), sl9⟩) (c9 : PySem.W.codeIn K cd9 "_law_read_well" = true) (k9 : PySem.W.keepIn K (.ref f9) = true)
    (a10 : PySem.W.nsIn K mainGlobals "law" = some (some (.ref f10))) (l10 : K.lookup f10 = some ⟨oc10, od10, .func (PySem.W.fnOf "law" "law" (defArgs s_law) (defBody s_law) (defScope s_law) .none kV10 dc10 pm10 an10 cd10 ct10), sl10⟩) (c10 : PySem.W.codeIn K cd10 "law" = true) (k10 : PySem.W.keepIn K (.ref f10) = true)
    (q0 : PySem.W.nsIn K mainGlobals "MOST_FIGURES" = some (some (.int 6 tk0)))
    (z0 : PySem.W.nsIn K mainGlobals "isinstance" = some none)
    (z1 : PySem.W.nsIn K mainGlobals "int" = some none)
    (z2 : PySem.W.nsIn K mainGlobals "bool" = some none)
    (z3 : PySem.W.nsIn K mainGlobals "str" = some none)
    (z4 : PySem.W.nsIn K mainGlobals "len" = some none)
    (z5 : PySem.W.nsIn K mainGlobals "abs" = some none)
    (z6 : PySem.W.nsIn K mainGlobals "range" = some none)
    : ∃ (ad : Nat → Addr) (fd : Nat → FuncData) (tk : Nat → Tok), Tx K mg ad fd tk ∧ ad 10 = f10 ∧ fd 10 = PySem.W.fnOf "law" "law" (defArgs s_law) (defBody s_law) (defScope s_law) .none kV10 dc10 pm10 an10 cd10 ct10 := by
  have F0 := fun_mk (st := s_is_whole) l0 c0 k0
  have F1 := fun_mk (st := s_is_among) l1 c1 k1
  have F2 := fun_mk (st := s_number_text) l2 c2 k2
  have F3 := fun_mk (st := s_number_of) l3 c3 k3
  have F4 := fun_mk (st := s_l_at) l4 c4 k4
  have F5 := fun_mk (st := s_l_whole) l5 c5 k5
  have F6 := fun_mk (st := s_l_read) l6 c6 k6
  have F7 := fun_mk (st := s_l_bent) l7 c7 k7
  have F8 := fun_mk (st := s_l_figures) l8 c8 k8
  have F9 := fun_mk (st := s_l_read_well) l9 c9 k9
  have F10 := fun_mk (st := s_law) l10 c10 k10
  have B0 := F0.binds (ps := ["thing"]) fun _ _ _ _ _ _ us hl => match us, hl with | [_], _ => rfl
  have B1 := F1.binds (ps := ["thing", "least", "most"]) fun _ _ _ _ _ _ us hl => match us, hl with | [_, _, _], _ => rfl
  have B2 := F2.binds (ps := ["number"]) fun _ _ _ _ _ _ us hl => match us, hl with | [_], _ => rfl
  have B3 := F3.binds (ps := ["text"]) fun _ _ _ _ _ _ us hl => match us, hl with | [_], _ => rfl
  have B4 := F4.binds (ps := ["_law_script", "_law_k"]) fun _ _ _ _ _ _ us hl => match us, hl with | [_, _], _ => rfl
  have B5 := F5.binds (ps := ["_law_thing"]) fun _ _ _ _ _ _ us hl => match us, hl with | [_], _ => rfl
  have B6 := F6.binds (ps := ["_law_text"]) fun _ _ _ _ _ _ us hl => match us, hl with | [_], _ => rfl
  have B7 := F7.binds (ps := ["_law_text", "_law_cell"]) fun _ _ _ _ _ _ us hl => match us, hl with | [_, _], _ => rfl
  have B8 := F8.binds (ps := ["_law_number"]) fun _ _ _ _ _ _ us hl => match us, hl with | [_], _ => rfl
  have B9 := F9.binds (ps := ["_law_text"]) fun _ _ _ _ _ _ us hl => match us, hl with | [_], _ => rfl
  have B10 := F10.binds (ps := ["_law_script"]) fun _ _ _ _ _ _ us hl => match us, hl with | [_], _ => rfl
  exact ⟨fun n => [f0, f1, f2, f3, f4, f5, f6, f7, f8, f9, f10].getD n 0, fun n => [PySem.W.fnOf "is_whole" "is_whole" (defArgs s_is_whole) (defBody s_is_whole) (defScope s_is_whole) .none kV0 dc0 pm0 an0 cd0 ct0, PySem.W.fnOf "is_among" "is_among" (defArgs s_is_among) (defBody s_is_among) (defScope s_is_among) .none kV1 dc1 pm1 an1 cd1 ct1, PySem.W.fnOf "number_text" "number_text" (defArgs s_number_text) (defBody s_number_text) (defScope s_number_text) .none kV2 dc2 pm2 an2 cd2 ct2, PySem.W.fnOf "number_of" "number_of" (defArgs s_number_of) (defBody s_number_of) (defScope s_number_of) .none kV3 dc3 pm3 an3 cd3 ct3, PySem.W.fnOf "_law_at" "_law_at" (defArgs s_l_at) (defBody s_l_at) (defScope s_l_at) .none kV4 dc4 pm4 an4 cd4 ct4, PySem.W.fnOf "_law_whole" "_law_whole" (defArgs s_l_whole) (defBody s_l_whole) (defScope s_l_whole) .none kV5 dc5 pm5 an5 cd5 ct5, PySem.W.fnOf "_law_read" "_law_read" (defArgs s_l_read) (defBody s_l_read) (defScope s_l_read) .none kV6 dc6 pm6 an6 cd6 ct6, PySem.W.fnOf "_law_bent" "_law_bent" (defArgs s_l_bent) (defBody s_l_bent) (defScope s_l_bent) .none kV7 dc7 pm7 an7 cd7 ct7, PySem.W.fnOf "_law_figures" "_law_figures" (defArgs s_l_figures) (defBody s_l_figures) (defScope s_l_figures) .none kV8 dc8 pm8 an8 cd8 ct8, PySem.W.fnOf "_law_read_well" "_law_read_well" (defArgs s_l_read_well) (defBody s_l_read_well) (defScope s_l_read_well) .none kV9 dc9 pm9 an9 cd9 ct9, PySem.W.fnOf "law" "law" (defArgs s_law) (defBody s_law) (defScope s_law) .none kV10 dc10 pm10 an10 cd10 ct10].getD n (PySem.W.fnOf "law" "law" (defArgs s_law) (defBody s_law) (defScope s_law) .none kV10 dc10 pm10 an10 cd10 ct10), fun n => [tk0].getD n default,
    ⟨F0, PySem.W.mg_of X G a0, B0, F1, PySem.W.mg_of X G a1, B1, F2, PySem.W.mg_of X G a2, B2, F3, PySem.W.mg_of X G a3, B3, F4, PySem.W.mg_of X G a4, B4, F5, PySem.W.mg_of X G a5, B5, F6, PySem.W.mg_of X G a6, B6, F7, PySem.W.mg_of X G a7, B7, F8, PySem.W.mg_of X G a8, B8, F9, PySem.W.mg_of X G a9, B9, F10, PySem.W.mg_of X G a10, B10, PySem.W.mg_of X G q0, PySem.W.mg_none_of X G z0, PySem.W.mg_none_of X G z1, PySem.W.mg_none_of X G z2, PySem.W.mg_none_of X G z3, PySem.W.mg_none_of X G z4, PySem.W.mg_none_of X G z5, PySem.W.mg_none_of X G z6⟩, rfl, rfl⟩
/-- the end: what is left is plain Lean -/
theorem walk {l : PySem.W.OpenLaw} {q : Program} {loose : List Str} {XP : (Str → Option Value) → Heap → Prop} {YP : World → Heap → Prop} {d : DefRec} {K : Params → PySem.W.Frag} (hn : l.most = some 63) (hdf : d.params.defaults = []) (hname : d.name = "law")
    (hY : ∀ (w : World) (h : Heap), YP w h → (K w.params).In h)
    (good : ∀ ns : List Int, ns.length ≤ 63 → (∀ z ∈ ns, Builtin.Int.intBits z ≤ 1048576) → ∃ μ, F_law [.scr ns] [] = .val (.bl true) μ)
    (F : ∀ (w : World) (mg : Str → Option Value) (h : Heap), (K w.params).In h → h.Ns mainGlobals mg → ∃ (ad : Nat → Addr) (fd : Nat → FuncData) (tk : Nat → Tok), Tx (K w.params) mg ad fd tk ∧ ∀ (s : Shared) (v : Value), BindsTo s (fd 10) ⟨[v], []⟩ [("_law_script", v)]) :
    PySem.W.WalkO q loose XP YP l.row.toRowW d [] (fun f vs => PySem.call f vs) :=
  L2.walk_ofB (n := 63) (k := 3) (x := "_law_script") (CX := fun _ => CX0) (sp := fun w => spN (K w.params) 1 F_law) hn (by decide) hdf ⟨rfl, by decide, by decide⟩ hY
    (fun w mg fa h Y G hmg => by
      obtain ⟨ad, fd, tk, T, hb⟩ := F w mg h Y G
      rw [hname] at hmg
      have e := hmg.symm.trans T.m_law
      cases e
      exact ⟨fd 10, hb, fun base _ _ => ok_law T⟩)
    (fun w H a ns hl hb _ hS => law_end (good ns hl hb) hS) fun _ _ _ _ _ z => z
end P_k01

namespace P_k01
open PySem PySem.Spec PyProof.Rows L2 Dn
open TL (numL numL_lt numL_step numL_len tl_num)
/-! texts -/
def nthN (cs : List Nat) (i : Nat) : Nat := cs.getD i 0
def digs : List Nat := [48, 49, 50, 51, 52, 53, 54, 55, 56, 57]
def menu : List Nat := [32, 45, 43, 48, 49, 50, 51, 52, 53, 54, 55, 56, 57, 97, 46, 120, 58, 47]
theorem lit_digs : Str.ofString "0123456789" = txS digs := by decide +kernel
theorem lit_menu : Str.ofString " -+0123456789a.x:/" = txS menu := by decide +kernel
theorem lit_no : Str.ofString "" = txS [] := by decide +kernel
theorem lit_minus : Str.ofString "-" = txS [45] := by decide +kernel
theorem lit_0 : Str.ofString "0" = txS [48] := by decide +kernel
theorem lit_7 : Str.ofString "7" = txS [55] := by decide +kernel
theorem gLen_tx {cs : List Nat} (h : cs.length ≤ 100000) (μ : Mu) : gLen [tx cs] μ = .val (.int cs.length) μ := by
  simp [gLen, h]
theorem gIx_tx {cs : List Nat} {i : Int} (h0 : 0 ≤ i) (h1 : i < cs.length) (hz : cs.length ≤ 100000) (μ : Mu) : gIx (tx cs) (.int i) μ = .val (tx [nthN cs i.toNat]) μ := by
  have e : atI cs i = some (nthN cs i.toNat) := atI_in h0 h1
  simp [gIx, hz, e]
theorem gSl_tx {cs : List Nat} {lo hi : Option Int} (hz : cs.length ≤ 100000) (μ : Mu) : gSl (tx cs) lo hi μ = .val (tx (cutL cs lo hi)) μ := by
  have e : cutS (txS cs) lo hi = txS (cutL cs lo hi) := by
    unfold cutS cutL
    rw [txS_len]
  simp only [gSl, txS_len, if_pos hz, e]
theorem gAdd_tx {a b : List Nat} (hz : a.length + b.length ≤ 100000) (μ : Mu) : gAddA (tx a) (tx b) μ = .val (tx (a ++ b)) μ := by
  simp only [gAddA, orG, gI, gCatS, txS_len, if_pos hz, txS_app]
theorem gEq_tx (a b : List Nat) (μ : Mu) : gEq (tx a) (tx b) μ = .val (.bl (decide (a = b))) μ := by
  rw [gEq_str]
  simp only [txS_inj]
theorem gNe_tx (a b : List Nat) (μ : Mu) : gNe (tx a) (tx b) μ = .val (.bl (!decide (a = b))) μ := by
  rw [gNe_str]
  simp only [txS_inj]
theorem gNotIn_tx (c : Nat) (cs : List Nat) (μ : Mu) : gNotIn (tx [c]) (tx cs) μ = .val (.bl (!decide (c ∈ cs))) μ := by
  have e : one (txS [c]) = c := rfl
  simp only [gNotIn, orG, gInF, sqOf, Option.bind_none, gInS, e]
  rfl
theorem signs_tx (cs : List Nat) : signsD (txS cs) = mapD (fun c => tx [c]) cs := rfl
theorem index_tx : ∀ c ∈ digs, ∀ μ, gIndex (tx digs) [tx [c]] μ = .val (.int (c - 48 : Nat)) μ := by
  intro c hc μ
  have : Builtin.Str.occurrences (txS digs) (txS [c]) 0 (txS digs).length 1 = [c - 48] := by
    simp only [digs, List.mem_cons, List.not_mem_nil, or_false] at hc
    rcases hc with rfl | rfl | rfl | rfl | rfl | rfl | rfl | rfl | rfl | rfl <;> decide +kernel
  simp only [gIndex, this]
theorem mem_digs {c : Nat} : c ∈ digs ↔ 48 ≤ c ∧ c ≤ 57 := by
  simp only [digs, List.mem_cons, List.not_mem_nil, or_false]
  omega
abbrev AD (cs : List Nat) : Prop := ∀ c ∈ cs, c ∈ digs
instance (cs : List Nat) : Decidable (AD cs) := inferInstance
def valN (a : Nat) (cs : List Nat) : Nat := cs.foldl (fun acc c => acc * 10 + (c - 48)) a
/-- the number that a text writes -/
def readN (cs : List Nat) : Option Int := if 1 ≤ cs.length ∧ cs.length ≤ 6 ∧ AD cs ∧ ¬ (1 < cs.length ∧ nthN cs 0 = 48) then some (valN 0 cs) else none
theorem number_loop (t : D) (μ : Mu) : ∀ (l : List Nat) (u : Option D), ∃ u', forL (gN 1) b_number_of_L1 (mapD (fun c => tx [c]) l) [some t, u] μ = if AD l then .nx [some t, u'] μ else .ret .non μ
  | [], u => ⟨u, by simp⟩
  | c :: l, u => by
    obtain ⟨u', ih⟩ := number_loop t μ l (some (tx [c]))
    refine ⟨u', ?_⟩
    rw [mapD_cons, forL_turn]
    by_cases q : c ∈ digs
    · have e : turn (gN 1) b_number_of_L1 (tx [c]) [some t, u] μ = .nx [some t, some (tx [c])] μ := by
        have := gNotIn_tx c digs μ
        simp [b_number_of_L1, lit_digs, this, q]
      rw [e]
      simp only [ih]
      by_cases p : AD l
      · have p' : AD (c :: l) := fun d hd => by
          rcases List.mem_cons.mp hd with hd | hd
          · rw [hd]; exact q
          · exact p d hd
        rw [if_pos p, if_pos p']
      · have p' : ¬ AD (c :: l) := fun z => p fun d hd => z d (List.mem_cons_of_mem _ hd)
        rw [if_neg p, if_neg p']
    · have e : turn (gN 1) b_number_of_L1 (tx [c]) [some t, u] μ = .ret .non μ := by
        have := gNotIn_tx c digs μ
        simp [b_number_of_L1, lit_digs, this, q]
      rw [e]
      have p' : ¬ AD (c :: l) := fun z => q (z c List.mem_cons_self)
      rw [if_neg p']
theorem int_tx {cs : List Nat} (h : AD cs) (h1 : cs ≠ []) (h2 : cs.length ≤ 600) (μ : Mu) : gInt [tx cs] μ = .val (.int (valN 0 cs)) μ := by
  have e := intText_digits (x := txS cs) (fun c hc => mem_digs.mp (h c (by simpa using hc))) (by simpa using h1) (by simp; omega)
  have e2 : (txS cs).cps.toList = cs := by simp
  rw [e2] at e
  have h3 : (txS cs).length ≤ 640 := by simp; omega
  simp only [gInt, if_pos h3, e]
  rfl
theorem run_number_of (cs : List Nat) (hz : cs.length ≤ 100000) : F_number_of [tx cs] [] = .val (oD (readN cs)) [] := by
  obtain ⟨u', e⟩ := number_loop (tx cs) [] cs none
  have hl := fun μ => gLen_tx hz μ
  unfold F_number_of b_number_of readN
  by_cases q : 1 ≤ cs.length ∧ cs.length ≤ 6
  · have q1 : (1 : Int) ≤ (cs.length : Int) := by omega
    have q2 : (cs.length : Int) ≤ 6 := by omega
    by_cases p : AD cs
    · rw [if_pos p] at e
      have hne : cs ≠ [] := fun z => by rw [z] at q; simp at q
      have hx := fun μ => gIx_tx (cs := cs) (i := 0) (by omega) (by omega) hz μ
      have he := fun μ => gEq_tx [nthN cs (0 : Int).toNat] [48] μ
      have hn := fun μ => gNe_tx cs [48] μ
      have hi := fun μ => int_tx p hne (by omega) μ
      simp only [Int.toNat_zero] at hx he
      by_cases c1 : nthN cs 0 = 48
      · by_cases c2 : cs = [48]
        · subst c2
          have p' : AD [48] := p
          simp [-gLen, -gInt, runF, lit_0, hl, signs_tx, e, hx, he, hn, hi, valN, mem_digs, nthN]
          rw [if_pos p]
          rfl
        · have c3 : 1 < cs.length := by
            cases cs with
            | nil => exact absurd rfl hne
            | cons a r =>
              cases r with
              | nil =>
                have c1 : a = 48 := c1
                exact absurd (by rw [c1]) c2
              | cons b r => simp
          have c4 : ¬ (1 ≤ cs.length ∧ cs.length ≤ 6 ∧ AD cs ∧ ¬ (1 < cs.length ∧ nthN cs 0 = 48)) := fun z => z.2.2.2 ⟨c3, c1⟩
          rw [if_neg c4]
          simp only [c1] at hx he
          simp [-gLen, -gInt, runF, hl, q1, q2, signs_tx, e, lit_0, hx, he, hn, c2]
      · have c4 : 1 ≤ cs.length ∧ cs.length ≤ 6 ∧ AD cs ∧ ¬ (1 < cs.length ∧ nthN cs 0 = 48) := ⟨q.1, q.2, p, fun z => c1 z.2⟩
        rw [if_pos c4]
        have c5 : ¬ [nthN cs 0] = [48] := fun z => c1 (by simpa using z)
        simp only [decide_eq_false c5] at he
        simp [-gLen, -gInt, runF, hl, q1, q2, signs_tx, e, lit_0, hx, he, hi]
    · rw [if_neg p] at e
      have c4 : ¬ (1 ≤ cs.length ∧ cs.length ≤ 6 ∧ AD cs ∧ ¬ (1 < cs.length ∧ nthN cs 0 = 48)) := fun z => p z.2.2.1
      rw [if_neg c4]
      simp [-gLen, -gInt, runF, hl, q1, q2, signs_tx, e]
  · have c4 : ¬ (1 ≤ cs.length ∧ cs.length ≤ 6 ∧ AD cs ∧ ¬ (1 < cs.length ∧ nthN cs 0 = 48)) := fun z => q ⟨z.1, z.2.1⟩
    rw [if_neg c4]
    by_cases q1 : (1 : Int) ≤ (cs.length : Int)
    · have q2 : ¬ (cs.length : Int) ≤ 6 := fun z => q ⟨by omega, by omega⟩
      simp [-gLen, -gInt, runF, hl, q1, q2]
    · simp [-gLen, -gInt, runF, hl, q1]
theorem valN_split : ∀ (l : List Nat) (a : Nat), valN a l = a * 10 ^ l.length + valN 0 l
  | [], a => by simp [valN]
  | c :: r, a => by
    have h1 := valN_split r (a * 10 + (c - 48))
    have h2 := valN_split r (0 * 10 + (c - 48))
    show valN (a * 10 + (c - 48)) r = a * 10 ^ (r.length + 1) + valN (0 * 10 + (c - 48)) r
    rw [h1, h2, Nat.pow_succ]
    generalize 10 ^ r.length = X
    have e : a * 10 * X = a * (X * 10) := by rw [Nat.mul_assoc, Nat.mul_comm 10]
    simp only [Nat.add_mul, Nat.zero_mul, Nat.zero_add, e, Nat.add_assoc]
theorem valN_lt : ∀ (l : List Nat), AD l → valN 0 l < 10 ^ l.length
  | [], _ => by simp [valN]
  | c :: r, h => by
    have h1 := valN_split r (0 * 10 + (c - 48))
    have h2 := valN_lt r fun d hd => h d (List.mem_cons_of_mem _ hd)
    have h3 := mem_digs.mp (h c List.mem_cons_self)
    show valN (0 * 10 + (c - 48)) r < 10 ^ (r.length + 1)
    rw [h1, Nat.pow_succ]
    have : (0 * 10 + (c - 48)) ≤ 9 := by omega
    have := Nat.mul_le_mul_right (10 ^ r.length) this
    omega
theorem valN_lead {cs : List Nat} (h : AD cs) (h1 : 1 < cs.length) : valN 0 cs < 10 ^ (cs.length - 1) ↔ nthN cs 0 = 48 := by
  cases cs with
  | nil => simp at h1
  | cons c r =>
    have e1 := valN_split r (0 * 10 + (c - 48))
    have e2 := valN_lt r fun d hd => h d (List.mem_cons_of_mem _ hd)
    have e3 := mem_digs.mp (h c List.mem_cons_self)
    show valN (0 * 10 + (c - 48)) r < 10 ^ (r.length + 1 - 1) ↔ c = 48
    rw [e1, Nat.add_sub_cancel]
    constructor
    · intro z
      by_cases q : c = 48
      · exact q
      · have : 1 ≤ (0 * 10 + (c - 48)) := by omega
        have := Nat.mul_le_mul_right (10 ^ r.length) this
        omega
    · intro z
      subst z
      simpa using e2
theorem gNe_nilS {l : List Nat} (h : ∀ c ∈ l, c < 1114112) (μ : Mu) : gNe (.lst (mapD (fun c => tx [c]) l)) (.lst []) μ = .val (.bl (!decide (l = []))) μ := by
  have e1 : toPyL (mapD (fun c => tx [c]) l) = some (l.map fun c => PyData.str (txS [c])) := by
    induction l with
    | nil => rfl
    | cons c r ih => rw [mapD_cons]; simp [ih fun d hd => h d (List.mem_cons_of_mem _ hd)]
  have e2 : PyData.canLayAll0 (l.map fun c => PyData.str (txS [c])) = true := by
    induction l with
    | nil => simp
    | cons c r ih =>
      rw [List.map_cons, lay_cons, lay_str, ih (fun d hd => h d (List.mem_cons_of_mem _ hd)) (by
        have := e1
        rw [mapD_cons] at this
        simpa using this)]
      have := h c List.mem_cons_self
      simp [PyData.strOk, this]
  have e3 : PyData.depthAll (l.map fun c => PyData.str (txS [c])) = 0 := by
    clear e1 e2 h
    induction l with
    | nil => simp
    | cons c r ih => rw [List.map_cons, dep_cons, dep_str, ih]; rfl
  rw [gNe_py (p := .list (l.map fun c => PyData.str (txS [c]))) (q := .list []) (by simp) (by simp) (by simp) (by simp [e1]) (by simp) (by simp [e2, e3]) (by simp)]
  cases l <;> simp
theorem read_loop (t : D) (μ : Mu) : ∀ (l : List Nat) (a k : Nat) (u : Option D), AD l → a < 10 ^ k → k + l.length ≤ 18 → ∃ u', forL (gN 1) b_l_read_L1 (mapD (fun c => tx [c]) l) [some t, u, some (.int a)] μ = .nx [some t, u', some (.int (valN a l))] μ
  | [], a, k, u, _, _, _ => ⟨u, rfl⟩
  | c :: l, a, k, u, h, ha, hk => by
    have hc := h c List.mem_cons_self
    have hc2 := mem_digs.mp hc
    rw [List.length_cons] at hk
    have hb : a * 10 + (c - 48) < 10 ^ (k + 1) := by rw [Nat.pow_succ]; omega
    obtain ⟨u', ih⟩ := read_loop t μ l (a * 10 + (c - 48)) (k + 1) (some (tx [c])) (fun d hd => h d (List.mem_cons_of_mem _ hd)) hb (by omega)
    refine ⟨u', ?_⟩
    rw [mapD_cons, forL_turn]
    have h18 : (10 : Nat) ^ k ≤ 10 ^ 18 := Nat.pow_le_pow_right (by decide) (by omega)
    have h18' : a < 1000000000000000000 := Nat.lt_of_lt_of_le ha (Nat.le_trans h18 (by decide))
    have m1 : ∀ μ, gMulA (.int (a : Int)) (.int 10) μ = .val (.int ((a : Int) * 10)) μ := fun μ => gMulA_small (by omega) (by omega) (by omega) (by omega)
    have ix := index_tx c hc
    have e : turn (gN 1) b_l_read_L1 (tx [c]) [some t, u, some (.int a)] μ = .nx [some t, some (tx [c]), some (.int (a * 10 + (c - 48) : Nat))] μ := by
      simp [-gIndex, b_l_read_L1, lit_digs, m1, ix]
      try omega
    rw [e]
    exact ih
theorem pows {n : Nat} (h1 : 1 < n) (h2 : n ≤ 6) (μ : Mu) : gIx (.lst [.int 1, .int 1, .int 10, .int 100, .int 1000, .int 10000, .int 100000]) (.int n) μ = .val (.int ((10 ^ (n - 1) : Nat) : Int)) μ := by
  have : n = 2 ∨ n = 3 ∨ n = 4 ∨ n = 5 ∨ n = 6 := by omega
  rcases this with rfl | rfl | rfl | rfl | rfl <;> rfl
theorem run_l_read (cs : List Nat) (hz : cs.length ≤ 100000) (ho : ∀ c ∈ cs, c < 1114112) : F_l_read [tx cs] [] = .val (oD (readN cs)) [] := by
  have hl := fun μ => gLen_tx hz μ
  unfold F_l_read b_l_read readN
  by_cases q : 1 ≤ cs.length ∧ cs.length ≤ 6
  · have q1 : ¬ (cs.length : Int) < 1 := by omega
    have q5 : cs.length ≤ 50000 := by omega
    have q2 : ¬ (6 : Int) < (cs.length : Int) := by omega
    have q3 : cs ≠ [] := fun z => by rw [z] at q; simp at q
    have hcomp : compL (gN 1) b_l_read_W1 b_l_read_C1 [some (tx cs), none, none] (mapD (fun c => tx [c]) cs) [] [] = .val (mapD (fun c => tx [c]) (cs.filter fun c => !decide (c ∈ digs))) [] := by
      rw [compN_filterD (h := fun c => tx [c]) (q := fun c => !decide (c ∈ digs))]
      · simp
      · intro c hc
        have := gNotIn_tx c digs []
        simp [b_l_read_W1, lit_digs, this]
      · intro c hc hq
        simp [b_l_read_C1]
    have hne := fun μ => gNe_nilS (l := cs.filter fun c => !decide (c ∈ digs)) (fun c hc => ho c (List.mem_filter.mp hc).1) μ
    by_cases p : AD cs
    · have hf : cs.filter (fun c => !decide (c ∈ digs)) = [] := by
        rw [List.filter_eq_nil_iff]
        intro c hc
        simp [p c hc]
      rw [hf] at hcomp hne
      simp only [mapD_nil] at hcomp hne
      obtain ⟨u', e⟩ := read_loop (tx cs) [] cs 0 0 none p (by decide) (by omega)
      simp only [Int.cast_ofNat_Int] at e
      have hf2 : (cs.length : Int) ≤ 50000 := by omega
      by_cases c1 : 1 < cs.length
      · have hp := fun μ => pows c1 q.2 μ
        have c1' : (1 : Int) < (cs.length : Int) := by omega
        have hv := valN_lead p c1
        by_cases c2 : nthN cs 0 = 48
        · have c3 : ¬ (1 ≤ cs.length ∧ cs.length ≤ 6 ∧ AD cs ∧ ¬ (1 < cs.length ∧ nthN cs 0 = 48)) := fun z => z.2.2.2 ⟨c1, c2⟩
          rw [if_neg c3]
          have c4 : ((valN 0 cs : Nat) : Int) < ((10 ^ (cs.length - 1) : Nat) : Int) := Int.ofNat_lt.mpr (hv.mpr c2)
          generalize ((10 ^ (cs.length - 1) : Nat) : Int) = P at hp c4
          simp [-gLen, runF, hl, q1, q2, q3, q5, signs_tx, hcomp, hne, e, c1, c1', hp, c4]
        · have c3 : 1 ≤ cs.length ∧ cs.length ≤ 6 ∧ AD cs ∧ ¬ (1 < cs.length ∧ nthN cs 0 = 48) := ⟨q.1, q.2, p, fun z => c2 z.2⟩
          rw [if_pos c3]
          have c4 : ¬ ((valN 0 cs : Nat) : Int) < ((10 ^ (cs.length - 1) : Nat) : Int) := fun z => c2 (hv.mp (Int.ofNat_lt.mp z))
          generalize ((10 ^ (cs.length - 1) : Nat) : Int) = P at hp c4
          simp [-gLen, runF, hl, q1, q2, q3, q5, signs_tx, hcomp, hne, e, c1, c1', hp, c4]
      · have c3 : 1 ≤ cs.length ∧ cs.length ≤ 6 ∧ AD cs ∧ ¬ (1 < cs.length ∧ nthN cs 0 = 48) := ⟨q.1, q.2, p, fun z => c1 z.1⟩
        rw [if_pos c3]
        have c1' : ¬ (1 : Int) < (cs.length : Int) := by omega
        simp [-gLen, runF, hl, q1, q2, q3, q5, signs_tx, hcomp, hne, e, c1, c1']
    · have c3 : ¬ (1 ≤ cs.length ∧ cs.length ≤ 6 ∧ AD cs ∧ ¬ (1 < cs.length ∧ nthN cs 0 = 48)) := fun z => p z.2.2.1
      rw [if_neg c3]
      have hf : cs.filter (fun c => !decide (c ∈ digs)) ≠ [] := fun z => p fun c hc => by
        rw [List.filter_eq_nil_iff] at z
        have := z c hc
        simpa using this
      generalize hg : cs.filter (fun c => !decide (c ∈ digs)) = l at hcomp hne hf
      simp [-gLen, runF, hl, q1, q2, q3, q5, signs_tx, hcomp, hne, hf]
  · have c3 : ¬ (1 ≤ cs.length ∧ cs.length ≤ 6 ∧ AD cs ∧ ¬ (1 < cs.length ∧ nthN cs 0 = 48)) := fun z => q ⟨z.1, z.2.1⟩
    rw [if_neg c3]
    by_cases q1 : cs.length < 1
    · have q3 : cs = [] := List.eq_nil_of_length_eq_zero (by omega)
      subst q3
      simp [runF]
    · have q1' : ¬ (cs.length : Int) < 1 := by omega
      have q2 : (6 : Int) < (cs.length : Int) := by omega
      have q3 : cs ≠ [] := fun z => q1 (by rw [z]; simp)
      simp [-gLen, runF, hl, q1', q2, q3]
theorem run_whole_int (z : Int) (μ : Mu) : F_l_whole [.int z] μ = .val (.bl true) μ := by
  unfold F_l_whole b_l_whole
  simp [runF, kit_ii, kit_ib]
theorem run_read_well (cs : List Nat) (hz : cs.length ≤ 100000) (ho : ∀ c ∈ cs, c < 1114112) (μ : Mu) : F_l_read_well [tx cs] μ = .val (.bl true) μ := by
  have e1 := run_number_of cs hz
  have e2 := run_l_read cs hz ho
  unfold F_l_read_well b_l_read_well
  cases h : readN cs with
  | none =>
    rw [h] at e1 e2
    simp at e1 e2
    simp [runF, e1, e2]
  | some z =>
    rw [h] at e1 e2
    simp at e1 e2
    simp [runF, e1, e2, run_whole_int]
theorem cutL_mem {cs : List Nat} {lo hi : Option Int} {c : Nat} (h : c ∈ cutL cs lo hi) : c ∈ cs := by
  unfold cutL at h
  exact List.mem_of_mem_drop (List.mem_of_mem_take h)
theorem cutL_len (cs : List Nat) (lo hi : Option Int) : (cutL cs lo hi).length ≤ cs.length := by
  unfold cutL
  rw [List.length_take, List.length_drop]
  omega
/-- plain signs -/
def Pl (cs : List Nat) : Prop := ∀ c ∈ cs, c < 128
theorem Pl.cut {cs : List Nat} (h : Pl cs) (lo hi : Option Int) : Pl (cutL cs lo hi) := fun c hc => h c (cutL_mem hc)
theorem Pl.app {a b : List Nat} (h : Pl a) (k : Pl b) : Pl (a ++ b) := fun c hc => by
  rcases List.mem_append.mp hc with hc | hc
  · exact h c hc
  · exact k c hc
theorem menu_lt (i : Nat) : nthN menu i < 128 := by
  unfold nthN
  by_cases h : i < 18
  · have : ∀ j < 18, menu.getD j 0 < 128 := by decide
    exact this i h
  · rw [List.getD_eq_getElem?_getD, List.getElem?_eq_none (by show 18 ≤ i; omega)]
    decide
theorem run_l_bent (cs : List Nat) (z : Int) (hz : cs.length ≤ 5000) (hp : Pl cs) : Yes (fun d _ => ∃ cs', d = tx cs' ∧ cs'.length ≤ 20000 ∧ Pl cs') (F_l_bent [tx cs, .int z] []) := by
  have hl := fun μ => gLen_tx (cs := cs) (by omega) μ
  obtain ⟨a, ha⟩ : ∃ a : Int, a = z / 7 % ((cs.length : Int) + 1) := ⟨_, rfl⟩
  have ha0 : 0 ≤ a := by rw [ha]; exact Int.emod_nonneg _ (by omega)
  obtain ⟨m, hm⟩ : ∃ m, m = nthN menu (z / 77 % 18).toNat := ⟨_, rfl⟩
  have hx : ∀ μ, gIx (tx menu) (.int (z / 77 % 18)) μ = .val (tx [m]) μ := fun μ => by
    rw [gIx_tx (by omega) (by show z / 77 % 18 < ((18 : Nat) : Int); omega) (by decide), hm]
  have hm2 : Pl [m] := fun c hc => by
    rw [List.mem_singleton.mp hc, hm]
    exact menu_lt _
  have hmod : ∀ μ, gMod (.int (z / 7)) (.int ((cs.length : Int) + 1)) μ = .val (.int a) μ := fun μ => by
    rw [gMod_pos (by omega), ha]
  have hs : ∀ lo hi μ, gSl (tx cs) lo hi μ = .val (tx (cutL cs lo hi)) μ := fun lo hi μ => gSl_tx (by omega) μ
  have k1 := cutL_len cs none (some a)
  have k2 := cutL_len cs (some a) none
  have k3 := cutL_len cs (some (a + 1)) none
  have p1 := hp.cut none (some a)
  have p2 := hp.cut (some a) none
  have p3 := hp.cut (some (a + 1)) none
  unfold F_l_bent b_l_bent b_l_bent_T1
  by_cases q0 : z % 7 = 0
  · have a1 : ∀ μ, gAddA (tx (cutL cs none (some a))) (tx [m]) μ = .val (tx (cutL cs none (some a) ++ [m])) μ := fun μ => gAdd_tx (by simp; omega) μ
    have a2 : ∀ μ, gAddA (tx (cutL cs none (some a) ++ [m])) (tx (cutL cs (some a) none)) μ = .val (tx (cutL cs none (some a) ++ [m] ++ cutL cs (some a) none)) μ := fun μ => gAdd_tx (by simp; omega) μ
    simp [-gLen, -gSl, -List.append_assoc, runF, hl, gDiv_pos, gMod_pos, hmod, lit_menu, hx, q0, hs, a1, a2]
    exact ⟨by first | omega | (simp; omega), (p1.app hm2).app p2⟩
  · by_cases q1 : z % 7 = 1
    · have a1 : ∀ μ, gAddA (tx (cutL cs none (some a))) (tx [m]) μ = .val (tx (cutL cs none (some a) ++ [m])) μ := fun μ => gAdd_tx (by simp; omega) μ
      have a2 : ∀ μ, gAddA (tx (cutL cs none (some a) ++ [m])) (tx (cutL cs (some (a + 1)) none)) μ = .val (tx (cutL cs none (some a) ++ [m] ++ cutL cs (some (a + 1)) none)) μ := fun μ => gAdd_tx (by simp; omega) μ
      simp [-gLen, -gSl, -List.append_assoc, runF, hl, gDiv_pos, gMod_pos, hmod, lit_menu, hx, q1, hs, a1, a2]
      exact ⟨by first | omega | (simp; omega), (p1.app hm2).app p3⟩
    · by_cases q2 : z % 7 = 2
      · have a2 : ∀ μ, gAddA (tx (cutL cs none (some a))) (tx (cutL cs (some (a + 1)) none)) μ = .val (tx (cutL cs none (some a) ++ cutL cs (some (a + 1)) none)) μ := fun μ => gAdd_tx (by omega) μ
        simp [-gLen, -gSl, runF, hl, gDiv_pos, gMod_pos, hmod, lit_menu, hx, q2, hs, a2]
        exact ⟨by first | omega | (simp; omega), p1.app p3⟩
      · by_cases q3 : z % 7 = 3
        · have a2 : ∀ μ, gAddA (tx [45]) (tx cs) μ = .val (tx ([45] ++ cs)) μ := fun μ => gAdd_tx (by simp; omega) μ
          simp [-gLen, -gSl, -List.cons_append, -List.nil_append, runF, hl, gDiv_pos, gMod_pos, hmod, lit_menu, lit_minus, hx, q3, hs, a2]
          exact ⟨by first | omega | (simp; omega), fun c hc => by
            rcases List.mem_cons.mp hc with h | h
            · rw [h]; decide
            · exact hp c h⟩
        · by_cases q4 : z % 7 = 4
          · obtain ⟨k, hk⟩ : ∃ k : Int, k = z / 7 % 4 := ⟨_, rfl⟩
            have hk0 : 0 ≤ k ∧ k < 4 := by omega
            have e1 : ∀ μ, gMulB (tx [48]) (.int k) μ = .val (tx (List.replicate k.toNat [48]).flatten) μ := fun μ => by
              rw [gMulB_str hk0.1 (by omega) (by simp) (by simp; omega)]
              rfl
            have hlen : (List.replicate k.toNat [48]).flatten.length = k.toNat := by simp
            have a2 : ∀ μ, gAddA (tx (List.replicate k.toNat [48]).flatten) (tx cs) μ = .val (tx ((List.replicate k.toNat [48]).flatten ++ cs)) μ := fun μ => gAdd_tx (by rw [hlen]; omega) μ
            have pz : Pl (List.replicate k.toNat [48]).flatten := fun c hc => by
              simp at hc
              omega
            generalize (List.replicate k.toNat [48]).flatten = zs at e1 hlen a2 pz
            simp [-gLen, -gSl, runF, hl, gDiv_pos, gMod_pos, hmod, lit_menu, lit_0, hx, q4, hs, ← hk, e1, a2]
            exact ⟨by first | omega | (simp; omega), pz.app hp⟩
          · simp [-gLen, -gSl, runF, hl, gDiv_pos, gMod_pos, hmod, lit_menu, hx, q0, q1, q2, q3, q4]
            exact ⟨by omega, hp⟩
/-! figures -/
theorem digs_at {d : Nat} (h : d < 10) : nthN digs d = 48 + d := by
  have : ∀ j < 10, digs.getD j 0 = 48 + j := by decide
  exact this d h
theorem figs_turn (z : D) (m : Nat) (t : List Nat) (μ : Mu) (hg : 0 < m ∨ t = []) (ht : t.length ≤ 1000) : wturn b_l_figures_W1 b_l_figures_L1 [some z, some (.int m), some (tx t)] μ = .nx [some z, some (.int (m / 10 : Nat)), some (tx ((48 + m % 10) :: t))] μ := by
  have hx : ∀ μ, gIx (tx digs) (.int ((m : Int) % 10)) μ = .val (tx [48 + m % 10]) μ := fun μ => by
    rw [gIx_tx (by omega) (by show (m : Int) % 10 < ((10 : Nat) : Int); omega) (by decide)]
    rw [show ((m : Int) % 10).toNat = m % 10 by omega, digs_at (by omega)]
  have he := fun μ => gEq_tx t [] μ
  have a1 : ∀ μ, gAddA (tx [48 + m % 10]) (tx t) μ = .val (tx ([48 + m % 10] ++ t)) μ := fun μ => gAdd_tx (by simp; omega) μ
  have a2 : ([48 + m % 10] ++ t) = (48 + m % 10) :: t := rfl
  rw [a2] at a1
  unfold wturn b_l_figures_W1 b_l_figures_L1
  by_cases q : 0 < m
  · simp [q, lit_digs, gMod_pos, gDiv_pos, hx, a1]
  · have q2 : t = [] := hg.resolve_left q
    subst q2
    simp [q, lit_digs, lit_no, he, gMod_pos, gDiv_pos, hx, a1]
theorem figs_loop (z : D) (μ : Mu) : ∀ (k m : Nat) (t : List Nat) (N : Nat), m < 10 ^ k → t ≠ [] → t.length + k ≤ 1000 → k < N → whileN b_l_figures_W1 b_l_figures_L1 N [some z, some (.int m), some (tx t)] μ = .nx [some z, some (.int 0), some (tx ((if m = 0 then [] else numL m) ++ t))] μ
  | k, m, t, 0, _, _, _, hN => absurd hN (Nat.not_lt_zero _)
  | k, m, t, N + 1, hm, ht, hk, hN => by
    rw [whileN_turn]
    by_cases q : m = 0
    · subst q
      have he := fun μ => gEq_tx t [] μ
      have e : wturn b_l_figures_W1 b_l_figures_L1 [some z, some (.int (0 : Nat)), some (tx t)] μ = .bk [some z, some (.int (0 : Nat)), some (tx t)] μ := by
        unfold wturn b_l_figures_W1 b_l_figures_L1
        simp [lit_no, he, ht]
      rw [e]
      simp
    · cases k with
      | zero => simp at hm; exact absurd hm q
      | succ k =>
        rw [figs_turn z m t μ (.inl (by omega)) (by omega)]
        simp only
        rw [figs_loop z μ k (m / 10) ((48 + m % 10) :: t) N (by rw [Nat.pow_succ] at hm; omega) (by simp) (by simp; omega) (by omega), if_neg q]
        by_cases c : m < 10
        · rw [if_pos (by omega), numL_lt c, show m % 10 = m by omega]
          rfl
        · rw [if_neg (by omega), numL_step (n := m) (by omega)]
          simp
def figN (z : Int) : List Nat := if z < 0 then 45 :: numL z.natAbs else numL z.natAbs
theorem str_int (z : Int) : Str.ofString (toString z) = txS (figN z) := by
  unfold figN
  by_cases h : z < 0
  · rw [if_pos h]
    obtain ⟨m, rfl⟩ : ∃ m : Nat, z = Int.negSucc m := ⟨z.natAbs - 1, by omega⟩
    have e : toString (Int.negSucc m) = "-" ++ toString (((m + 1 : Nat)) : Int) := rfl
    rw [e]
    have e2 : (Str.ofString ("-" ++ toString (((m + 1 : Nat)) : Int))).cps.toList = 45 :: numL (m + 1) := by
      rw [← tl_num (m + 1)]
      rfl
    rw [← txS_tl (Str.ofString ("-" ++ toString (((m + 1 : Nat)) : Int))), e2]
    rfl
  · rw [if_neg h]
    obtain ⟨m, rfl⟩ : ∃ m : Nat, z = (m : Int) := ⟨z.natAbs, by omega⟩
    have e := tl_num m
    rw [← txS_tl (Str.ofString (toString ((m : Nat) : Int)))]
    exact congrArg txS e
theorem run_l_figures (z : Int) (h : z.natAbs < 10 ^ 200) : F_l_figures [.int z] [] = .val (tx (figN z)) [] := by
  have e1 : whileN b_l_figures_W1 b_l_figures_L1 FUEL [some (.int z), some (.int z.natAbs), some (tx [])] [] = .nx [some (.int z), some (.int 0), some (tx (numL z.natAbs))] [] := by
    obtain ⟨N, hN⟩ : ∃ N, FUEL = N + 1 := ⟨FUEL - 1, by have := lt_fuel (n := 1) (by decide); omega⟩
    have hN2 : 500 < N := by have := lt_fuel (n := 1000) (by decide); omega
    rw [hN, whileN_turn, figs_turn _ _ _ _ (.inr rfl) (by simp)]
    simp only
    rw [figs_loop (.int z) [] 200 (z.natAbs / 10) [48 + z.natAbs % 10] N (by omega) (by simp) (by simp) (by omega)]
    by_cases c : z.natAbs < 10
    · rw [if_pos (by omega), numL_lt c, show z.natAbs % 10 = z.natAbs by omega]
      rfl
    · rw [if_neg (by omega), numL_step (n := z.natAbs) (by omega)]
  have hab : (if z < 0 then -z else z) = (z.natAbs : Int) := by split <;> omega
  have hlen : (numL z.natAbs).length ≤ 200 := numL_len (by decide) h
  unfold F_l_figures b_l_figures figN
  by_cases q : z < 0
  · have a2 : ∀ μ, gAddA (tx [45]) (tx (numL z.natAbs)) μ = .val (tx ([45] ++ numL z.natAbs)) μ := fun μ => gAdd_tx (by simp; omega) μ
    rw [if_pos q]
    rw [if_pos q] at hab
    simp [runF, q, hab, lit_no, lit_minus, e1, a2]
  · rw [if_neg q]
    rw [if_neg q] at hab
    rw [← hab] at e1
    simp [runF, q, lit_no, e1]
theorem run_number_text (z : Int) (h : z.natAbs.log2 < 1900) (μ : Mu) : F_number_text [.int z] μ = .val (tx (figN z)) μ := by
  unfold F_number_text b_number_text
  simp [runF, h]
  exact str_int z
def atZ (ns : List Int) (k : Int) : Int := (cellZ ns k % 1000000007 + 7919 * k * k + 31) * (48271 + 2 * k) % 2147483647
theorem atZ_b (ns : List Int) (k : Int) : 0 ≤ atZ ns k ∧ atZ ns k < 2147483647 := by
  unfold atZ
  exact ⟨Int.emod_nonneg _ (by decide), Int.emod_lt_of_pos _ (by decide)⟩
theorem run_at (ns : List Int) (k : Int) (h0 : 0 ≤ k) (h1 : k ≤ 30) (μ : Mu) : F_l_at [.scr ns, .int k] μ = .val (.int (atZ ns k)) μ := by
  have m1 : ∀ μ, gMulA (.int 7919) (.int k) μ = .val (.int (7919 * k)) μ := fun μ => gMulA_small (by omega) (by omega) (by omega) (by omega)
  have m2 : ∀ μ, gMulA (.int (7919 * k)) (.int k) μ = .val (.int (7919 * k * k)) μ := fun μ => gMulA_small (by omega) (by omega) (by omega) (by omega)
  have m3 : ∀ μ, gMulA (.int 2) (.int k) μ = .val (.int (2 * k)) μ := fun μ => gMulA_small (by omega) (by omega) (by omega) (by omega)
  have hk2 : 0 ≤ 7919 * k * k ∧ 7919 * k * k ≤ 7127100 := by
    have a : 0 ≤ k * k := Int.mul_nonneg h0 h0
    have b : k * k ≤ 30 * 30 := Int.mul_le_mul h1 h1 h0 (by decide)
    rw [Int.mul_assoc]
    omega
  unfold atZ
  generalize 7919 * k * k = y at m2 hk2
  have m4 : ∀ (z : Int) μ, gMulA (.int (z % 1000000007 + y + 31)) (.int (48271 + 2 * k)) μ = .val (.int ((z % 1000000007 + y + 31) * (48271 + 2 * k))) μ := fun z μ => gMulA_small (by omega) (by omega) (by omega) (by omega)
  have m5 : ∀ μ, gMulA (.int (y + 31)) (.int (48271 + 2 * k)) μ = .val (.int ((y + 31) * (48271 + 2 * k))) μ := fun μ => gMulA_small (by omega) (by omega) (by omega) (by omega)
  unfold F_l_at b_l_at cellZ
  by_cases hk : k < ns.length
  · simp [runF, hk, gIx_scr (atI_map (f := D.int) h0 hk), m1, m2, m3, m4, gMod_pos]
  · simp [runF, hk, m1, m2, m3, m4, m5, gMod_pos]
theorem kit_ni : kitB "NoneType" "int" = some false := by decide +kernel
theorem kit_si : kitB "str" "int" = some false := by decide +kernel
theorem kit_li : kitB "list" "int" = some false := by decide +kernel
theorem kit_ti : kitB "tuple" "int" = some false := by decide +kernel
theorem kit_di : kitB "dict" "int" = some false := by decide +kernel
theorem run_is_whole_int (z : Int) (μ : Mu) : F_is_whole [.int z] μ = .val (.bl true) μ := by
  unfold F_is_whole b_is_whole
  simp [runF, kit_ii, kit_ib]
theorem run_is_among_int (z lo hi : Int) (μ : Mu) : F_is_among [.int z, .int lo, .int hi] μ = .val (.bl (decide (lo ≤ z) && decide (z ≤ hi))) μ := by
  have e := fun μ => run_is_whole_int z μ
  unfold F_is_among b_is_among
  by_cases q : lo ≤ z <;> by_cases p : z ≤ hi <;> simp [runF, e, q, p]
/-- what is no whole number -/
def NoW (d : D) (μ : Mu) : Prop := F_is_whole [d] μ = .val (.bl false) μ
theorem NoW.among {d : D} {μ : Mu} (h : NoW d μ) (lo hi : D) : F_is_among [d, lo, hi] μ = .val (.bl false) μ := by
  unfold NoW at h
  unfold F_is_among b_is_among
  simp [runF, h]
theorem thing (told : List Nat) (w : Int) (h0 : 0 ≤ w) (h1 : w < 8) : ∃ d, gIx (.lst [.bl true, .bl false, .non, .str (Str.ofString "1"), .lst [.int 1], .tup [.int 1], .ref 0, tx told]) (.int w) [.dK []] = .val d [.dK []] ∧ NoW d [.dK []] := by
  have hw : w = 0 ∨ w = 1 ∨ w = 2 ∨ w = 3 ∨ w = 4 ∨ w = 5 ∨ w = 6 ∨ w = 7 := by omega
  unfold NoW F_is_whole b_is_whole
  rcases hw with rfl | rfl | rfl | rfl | rfl | rfl | rfl | rfl
  · exact ⟨_, rfl, by simp [runF, kit_bi, kit_bb]⟩
  · exact ⟨_, rfl, by simp [runF, kit_bi, kit_bb]⟩
  · exact ⟨_, rfl, by simp [runF, kit_ni]⟩
  · exact ⟨_, rfl, by simp [runF, kit_si]⟩
  · exact ⟨_, rfl, by simp [runF, kit_li]⟩
  · exact ⟨_, rfl, by simp [runF, kit_ti]⟩
  · exact ⟨_, rfl, by simp [runF, kit_di]⟩
  · exact ⟨_, rfl, by simp [runF, kit_si]⟩
theorem figN_lt (z : Int) : ∀ c ∈ figN z, c < 128 := by
  intro c hc
  unfold figN at hc
  have hd : ∀ n, ∀ c ∈ numL n, c < 128 := fun n c hc => by
    have := TL.numL_digits n c hc
    omega
  split at hc
  · rcases List.mem_cons.mp hc with h | h
    · omega
    · exact hd _ c h
  · exact hd _ c hc
theorem figN_len (z : Int) (h : z.natAbs < 10 ^ 200) : (figN z).length ≤ 201 := by
  have := numL_len (by decide) h
  unfold figN
  split
  · rw [List.length_cons]; omega
  · omega
theorem log_of {z : Int} (h : z.natAbs < 10 ^ 200) : z.natAbs.log2 < 1900 := by
  have : z.natAbs.log2 ≤ 1000 := lt_pow_log2 (Nat.lt_of_lt_of_le h (by decide))
  omega
theorem pick4 (x : Int) : ∃ m : Int, 0 < m ∧ m ≤ 10000000 ∧ ∀ μ, gIx (.lst [.int 10, .int 1000, .int 1000000, .int 10000000]) (.int (x % 4)) μ = .val (.int m) μ := by
  have h : x % 4 = 0 ∨ x % 4 = 1 ∨ x % 4 = 2 ∨ x % 4 = 3 := by omega
  rcases h with h | h | h | h
  · exact ⟨10, by decide, by decide, fun μ => by rw [h]; rfl⟩
  · exact ⟨1000, by decide, by decide, fun μ => by rw [h]; rfl⟩
  · exact ⟨1000000, by decide, by decide, fun μ => by rw [h]; rfl⟩
  · exact ⟨10000000, by decide, by decide, fun μ => by rw [h]; rfl⟩
theorem pick10 (x : Int) : ∃ m : Int, 0 < m ∧ m ≤ 1000000000000000000000000000 ∧ ∀ μ, gIx (.lst [.int 1, .int 1000, .int 1000000000, .int 1000000000000000000000000000]) (.int (x % 4)) μ = .val (.int m) μ := by
  have h : x % 4 = 0 ∨ x % 4 = 1 ∨ x % 4 = 2 ∨ x % 4 = 3 := by omega
  rcases h with h | h | h | h
  · exact ⟨1, by decide, by decide, fun μ => by rw [h]; rfl⟩
  · exact ⟨1000, by decide, by decide, fun μ => by rw [h]; rfl⟩
  · exact ⟨1000000000, by decide, by decide, fun μ => by rw [h]; rfl⟩
  · exact ⟨1000000000000000000000000000, by decide, by decide, fun μ => by rw [h]; rfl⟩
theorem small10 {z : Int} (h1 : -(10 ^ 60) < z) (h2 : z < 10 ^ 60) : z.natAbs < 10 ^ 200 := by
  have : z.natAbs < 10 ^ 60 := by omega
  exact Nat.lt_of_lt_of_le this (by decide)
/-- one turn of the eight -/
theorem law_turn (ns : List Int) (i : Nat) (hi : i < 8) (μ : Mu) (r1 r2 r3 r4 r5 r6 r8 : Option D) : ∃ u, b_law_L1 [some (.scr ns), r1, r2, r3, r4, r5, r6, some (.int (i : Int)), r8] μ = .nx [some (.scr ns), r1, r2, r3, r4, r5, r6, some (.int (i : Int)), u] μ := by
  have c1 := fun μ => run_at ns (3 + (i : Int)) (by omega) (by omega) μ
  have c2 := fun μ => run_at ns (11 + (i : Int)) (by omega) (by omega) μ
  have b1 := atZ_b ns (3 + (i : Int))
  obtain ⟨m, m0, m1, hm⟩ := pick4 (i : Int)
  generalize atZ ns (3 + (i : Int)) = x at c1 b1
  have e0 : 0 ≤ x % m ∧ x % m < m := ⟨Int.emod_nonneg _ (by omega), Int.emod_lt_of_pos _ m0⟩
  have hmod : ∀ μ, gMod (.int x) (.int m) μ = .val (.int (x % m)) μ := fun μ => gMod_pos m0
  generalize x % m = v at e0 hmod
  have hv : v.natAbs < 10 ^ 200 := small10 (by omega) (by omega)
  have hlog := log_of hv
  have hs : ∀ μ, gStr [.int v] μ = .val (tx (figN v)) μ := fun μ => by
    simp only [gStr, if_pos hlog, str_int]
  have l1 := figN_len v hv
  have rw1 := fun μ => run_read_well (figN v) (by omega) (fun c hc => by have := figN_lt v c hc; omega) μ
  obtain ⟨d, μb, hb, cs', rfl, l2, p2⟩ := (run_l_bent (figN v) (atZ ns (11 + (i : Int))) (by omega) (figN_lt v)).get
  have rw2 := fun μ => run_read_well cs' (by omega) (fun c hc => by have := p2 c hc; omega) μ
  refine ⟨some (tx (figN v)), ?_⟩
  unfold b_law_L1
  simp [-gStr, c1, c2, gMod_pos, hm, hmod, hs, rw1, hb, rw2]
theorem law_loop (ns : List Int) (μ : Mu) (r1 r2 r3 r4 r5 r6 : Option D) : ∃ u7 u8, forL (gN 7) b_law_L1 ((List.range 8).map fun i : Nat => D.int (0 + (i : Int))) [some (.scr ns), r1, r2, r3, r4, r5, r6, none, none] μ = .nx [some (.scr ns), r1, r2, r3, r4, r5, r6, u7, u8] μ := by
  obtain ⟨ρ', μ', e, u7, u8, rfl, rfl⟩ := forR_go (s := 7) (b := b_law_L1) (lo := 0) (n := 8) (ρ := [some (.scr ns), r1, r2, r3, r4, r5, r6, none, none]) (μ := μ)
    (fun i ρ μ' => ∃ u7 u8 : Option D, ρ = [some (.scr ns), r1, r2, r3, r4, r5, r6, u7, u8] ∧ μ' = μ) ⟨none, none, rfl, rfl⟩ (by
      rintro i ρ μ' hi ⟨u7, u8, rfl, rfl⟩
      obtain ⟨u, hu⟩ := law_turn ns i hi μ' r1 r2 r3 r4 r5 r6 u8
      simp only [List.set, Int.zero_add, hu]
      exact ⟨_, _, rfl, rfl⟩)
  exact ⟨u7, u8, e⟩
theorem part_end (ns : List Int) (z : Int) (hz : z.natAbs < 10 ^ 200) (c : Int) (r4 r5 : Option D) : b_law_T1 [some (.scr ns), some (.int c), some (.int z), some (tx (figN z)), r4, r5, none, none, none] [] = .ret (.bl true) [.dK []] := by
  obtain ⟨d, hd, nd⟩ := thing (figN z) (c / 1080 % 8) (by omega) (by omega)
  have nw : F_is_whole [d] [.dK []] = .val (.bl false) [.dK []] := nd
  have na := nd.among (.int (-1)) (.int 2)
  obtain ⟨u7, u8, hl⟩ := law_loop ns [.dK []] (some (.int c)) (some (.int z)) (some (tx (figN z))) r4 r5 (some d)
  have w0 := fun μ => run_read_well [] (by simp) (by simp) μ
  have e7 : ∀ μ, gMulB (.str (Str.ofString "7")) (.int 4000) μ = .val (tx (List.replicate 4000 [55]).flatten) μ := fun μ => by
    rw [lit_7, gMulB_str (by decide) (by decide) (by simp) (by simp)]
    rfl
  have w7 : ∀ μ, F_l_read_well [tx (List.replicate 4000 [55]).flatten] μ = .val (.bl true) μ := fun μ => run_read_well _ (by simp) (by intro c hc; simp at hc; omega) μ
  have wt := fun μ => run_read_well (figN z) (by have := figN_len z hz; omega) (fun c hc => by have := figN_lt z c hc; omega) μ
  have am := run_is_among_int z z z [.dK []]
  simp only [Int.le_refl, decide_true, Bool.and_self] at am
  generalize (List.replicate 4000 [55]).flatten = sv at e7 w7
  unfold b_law_T1
  simp only [Int.zero_add] at hl
  simp [eNewK, gDiv_pos, gMod_pos, hd, nw, na, hl, lit_no, w0, e7, w7, wt, am]
theorem part_mid (ns : List Int) (z : Int) (hz : z.natAbs < 10 ^ 200) (c : Int) : b_law_T2 [some (.scr ns), some (.int c), some (.int z), none, none, none, none, none, none] [] = .ret (.bl true) [.dK []] := by
  have e1 := fun μ => run_number_text z (log_of hz) μ
  have e2 := run_l_figures z hz
  have c2 := fun μ => run_at ns 2 (by omega) (by omega) μ
  have hn := fun μ => gNe_tx (figN z) (figN z) μ
  have pe := fun r4 r5 => part_end ns z hz c r4 r5
  have w := fun μ => run_is_whole_int z μ
  have am := fun lo hi μ => run_is_among_int z lo hi μ
  unfold b_law_T2
  obtain ⟨lo, hlo⟩ : ∃ lo : Int, lo = z - c / 90 % 3 + atZ ns 2 % 3 - 1 := ⟨_, rfl⟩
  obtain ⟨hi, hhi⟩ : ∃ hi : Int, hi = lo + c / 270 % 4 := ⟨_, rfl⟩
  by_cases q : lo ≤ z <;> by_cases p : z ≤ hi <;> simp [e1, e2, c2, hn, kit_ss, gDiv_pos, gMod_pos, ← hlo, ← hhi, w, am, pe, q, p]
theorem pw3 (μ : Mu) : gPow (.int 10) (.int 3) μ = .val (.int 1000) μ := by
  rw [gPow_ok (by decide) (by decide) (by decide) (by decide)]; rfl
theorem pw9 (μ : Mu) : gPow (.int 10) (.int 9) μ = .val (.int 1000000000) μ := by
  rw [gPow_ok (by decide) (by decide) (by decide) (by decide)]; rfl
theorem pw27 (μ : Mu) : gPow (.int 10) (.int 27) μ = .val (.int 1000000000000000000000000000) μ := by
  rw [gPow_ok (by decide) (by decide) (by decide) (by decide)]; rfl
theorem law_true (ns : List Int) (hl : ns.length ≤ 63) (hb : ∀ z ∈ ns, Builtin.Int.intBits z ≤ 1048576) : ∃ μ, F_law [.scr ns] [] = .val (.bl true) μ := by
  have c0 := fun μ => run_at ns 0 (by omega) (by omega) μ
  have c1 := fun μ => run_at ns 1 (by omega) (by omega) μ
  have b1 := atZ_b ns 1
  generalize atZ ns 0 = c at c0
  generalize atZ ns 1 = x at c1 b1
  refine ⟨[.dK []], ?_⟩
  unfold F_law b_law
  by_cases q1 : c % 3 = 1
  · have h := small10 (z := (x - 1000000000) % 1000000) (by omega) (by omega)
    have pm := part_mid ns _ h c
    have q2 : ¬ c % 3 = 2 := by omega
    simp [runF, c0, c1, gMod_pos, q1, pm]
  · by_cases q2 : c % 3 = 2
    · obtain ⟨m, m0, m1, hm⟩ := pick10 (c / 3)
      have hmul : ∀ μ, gMulA (.int (x - 1000000000)) (.int m) μ = .val (.int ((x - 1000000000) * m)) μ := fun μ => gMulA_ok (by
        have a := log2_small (x := x - 1000000000) (by omega) (by omega)
        have b : m.natAbs.log2 ≤ 200 := lt_pow_log2 (Nat.lt_of_le_of_lt (show m.natAbs ≤ 1000000000000000000000000000 by omega) (by decide))
        unfold Dn.MulOk
        omega)
      have h : ((x - 1000000000) * m).natAbs < 10 ^ 200 := by
        rw [Int.natAbs_mul]
        have a : (x - 1000000000).natAbs ≤ 10000000000 := by omega
        have b : m.natAbs ≤ 1000000000000000000000000000 := by omega
        exact Nat.lt_of_le_of_lt (Nat.mul_le_mul a b) (by decide)
      have pm := part_mid ns _ h c
      generalize (x - 1000000000) * m = z at hmul pm
      simp [runF, c0, c1, gMod_pos, gDiv_pos, q2, pw3, pw9, pw27, hm, hmul, pm]
    · have h := small10 (z := x - 1000000000) (by omega) (by omega)
      have pm := part_mid ns _ h c
      simp [runF, c0, c1, gMod_pos, q1, q2, pm]
end P_k01

open PySem PySem.W PyProof.Rows
set_option maxRecDepth 100000 in
set_option maxHeartbeats 0 in
theorem PySem.Challenge.cw_floorways_k01_words_holds : PySem.Challenge.rw_floorways_k01_words.Holds := by
  w_on; o_law; k_head; (case hw => w_witness2)
  k_fill
  refine P_k01.walk (l := PySem.Challenge.rw_floorways_k01_words) rfl rfl rfl (fun w h Y => PySem.W.kIn_of Y) P_k01.law_true ?F
  case F =>
    intro w mg h KX G
    obtain ⟨ad, fd, tk, T, _, e⟩ : ∃ (ad : Nat → Addr) (fd : Nat → FuncData) (tk : Nat → Tok), P_k01.Tx _ mg ad fd tk ∧ _ := by
      refine' P_k01.all_mk KX G ?a0 ?l0 ?c0 ?k0 ?a1 ?l1 ?c1 ?k1 ?a2 ?l2 ?c2 ?k2 ?a3 ?l3 ?c3 ?k3 ?a4 ?l4 ?c4 ?k4 ?a5 ?l5 ?c5 ?k5 ?a6 ?l6 ?c6 ?k6 ?a7 ?l7 ?c7 ?k7 ?a8 ?l8 ?c8 ?k8 ?a9 ?l9 ?c9 ?k9 ?a10 ?l10 ?c10 ?k10 ?q0 ?z0 ?z1 ?z2 ?z3 ?z4 ?z5 ?z6
      (case a0 => k_is); (case l0 => k_is); (case c0 => k_is); (case k0 => k_is); (case a1 => k_is); (case l1 => k_is)
      (case c1 => k_is); (case k1 => k_is); (case a2 => k_is); (case l2 => k_is); (case c2 => k_is); (case k2 => k_is)
      (case a3 => k_is); (case l3 => k_is); (case c3 => k_is); (case k3 => k_is); (case a4 => k_is); (case l4 => k_is)
      (case c4 => k_is); (case k4 => k_is); (case a5 => k_is); (case l5 => k_is); (case c5 => k_is); (case k5 => k_is)
      (case a6 => k_is); (case l6 => k_is); (case c6 => k_is); (case k6 => k_is); (case a7 => k_is); (case l7 => k_is)
      (case c7 => k_is); (case k7 => k_is); (case a8 => k_is); (case l8 => k_is); (case c8 => k_is); (case k8 => k_is)
      (case a9 => k_is); (case l9 => k_is); (case c9 => k_is); (case k9 => k_is); (case a10 => k_is); (case l10 => k_is)
      (case c10 => k_is); (case k10 => k_is); (case q0 => k_is); (case z0 => k_is); (case z1 => k_is); (case z2 => k_is)
      (case z3 => k_is); (case z4 => k_is); (case z5 => k_is); (case z6 => k_is)
    exact ⟨ad, fd, tk, T, fun s v => by rw [e]; exact .of_eq rfl⟩
