import PyProof.Rows.All
import Wide.All
import OpenK.AllK
import Wide.FinOn
import HandS.ForMost
import HandS.IsInst
import HandS.Wide
import HandS.TupAny
import HandS.TupMul
import HandS.EndBits
import HandS.Style
import HandS.Dict
import HandS.DictTup
import HandS.Iter
import HandS.DictEq
import KE.KDictDisplayH
import HandS.TupLen
import HandS.Exc
import HandS.ExcOwn
import HandS.TryOnly
import HandS.WordsExc
import HandS.Conv
import HandS.HotCalls
import HandS.ExcIs
import HandS.CallSlots
import KE.KExcIs
import HandS.Deep
import HandS.Text
import HandS.Replace
import PyProof.StrOps2
import PyProof.ListStr
import HandS.TupLe
import HandS.NamedTupSort
import HandS.SortRule
import KE.DataMinMax
import KE.DataFind
import HandS.TryMany
import HandS.ExcInit
import HandS.SortInts
import HandS.SortKw
import HandS.More
import KE.KRevSl
import HandS.TupSets
import KE.SortData
import HandS.Zip
import PyProof.P3In
import PySem.Challenge.RW_floorways_k15_whole_books_never_meet
set_option Elab.async false
set_option linter.all false
set_option maxRecDepth 100000
set_option maxHeartbeats 4000000
/-! Dn1: values as trees, mutable things as numbered cells; how they stand in HandS's abstract heap. -/
namespace Dn
open PySem PySem.Spec PyProof.Rows L2

/-- a value as a tree; .ref n: the n-th mutable cell; .scr: the script; .raw: a class, a function, a type -/
inductive D where
  | non | bl (b : Bool) | int (i : Int) | str (s : Str)
  | tup (xs : List D) | lst (xs : List D) | scr (ns : List Int) | ref (n : Nat) | raw (v : V) | exn (a dd : Addr) (ks : List Str) (ds : List D)
/-- a mutable cell -/
inductive Nd where
  | lst (xs : List D) | dK (kvs : List (Key × D)) | dT (kvs : List (List Key × D)) | ins (i : Nat) (C : Addr) (fs : List (Str × D))
  | lkK (o : Obj) (ws : List (Key × V)) (kvs : List (Key × D)) | lkT (o : Obj) (ws : List (List Key × V)) (kvs : List (List Key × D))
abbrev Mu := List Nd
abbrev Ro := List (Option D)
abbrev Ad := List Addr
/-- an exception: its class, its fields -/
structure Ex where
  ix : Nat
  cls : Value
  fs : List (Str × D)

/-- a list of values by what makes them; a name of its own keeps simp's lemmas of map away -/
def mapD {α : Type} (f : α → D) (xs : List α) : List D := xs.map f

mutual
inductive Rp (K : PySem.W.Frag) (S : Hp) (ad : Ad) : V → D → Prop
  | non : Rp K S ad .non .non
  | bl (b : Bool) : Rp K S ad (.bl b) (.bl b)
  | int (i : Int) : Rp K S ad (.int i) (.int i)
  | str (x : Str) : Rp K S ad (.str x) (.str x)
  | tup {a : Addr} {xs : List V} {ds : List D} : S a = some (.tup xs) → RpL K S ad xs ds → Rp K S ad (.ref a) (.tup ds)
  | lst {a : Addr} {xs : List V} {ds : List D} : S a = some (.lst xs) → RpL K S ad xs ds → Rp K S ad (.ref a) (.lst ds)
  | scr {a : Addr} {ns : List Int} : SqL K S a (ns.map V.int) → Rp K S ad (.ref a) (.scr ns)
  | ref {a : Addr} {n : Nat} : ad[n]? = some a → Rp K S ad (.ref a) (.ref n)
  | raw (v : V) : Rp K S ad v (.raw v)
  | exn {a dd : Addr} {ws : List (Str × V)} {ks : List Str} {ds : List D} : S dd = some (.xd ws) → ws.map (·.1) = ks → RpL K S ad (ws.map (·.2)) ds → Rp K S ad (.ref a) (.exn a dd ks ds)
inductive RpL (K : PySem.W.Frag) (S : Hp) (ad : Ad) : List V → List D → Prop
  | nil : RpL K S ad [] []
  | cons {v : V} {vs : List V} {d : D} {ds : List D} : Rp K S ad v d → RpL K S ad vs ds → RpL K S ad (v :: vs) (d :: ds)
end

theorem same_t {K : PySem.W.Frag} {H H' : Hp} {a : Addr} {xs : List V} (e : Same H H') (h : SqT K H a xs) : SqT K H' a xs := by
  rcases h with (h | ⟨o, h⟩) | h
  · exact .inl (.inl (e _ _ h))
  · exact .inl (.inr ⟨o, e _ _ h⟩)
  · exact .inr h

section
variable {K : PySem.W.Frag} {S S' : Hp} {ad ad' : Ad}
mutual
theorem Rp.mono (e : Same S S') (p : ∀ (n : Nat) (a : Addr), ad[n]? = some a → ad'[n]? = some a) : ∀ {v : V} {d : D}, Rp K S ad v d → Rp K S' ad' v d
  | _, _, .non => .non
  | _, _, .bl b => .bl b
  | _, _, .int i => .int i
  | _, _, .str x => .str x
  | _, _, .tup h r => .tup (e _ _ h) (RpL.mono e p r)
  | _, _, .lst h r => .lst (e _ _ h) (RpL.mono e p r)
  | _, _, .scr h => .scr (e.seq h)
  | _, _, .ref h => .ref (p _ _ h)
  | _, _, .raw v => .raw v
  | _, _, .exn h q r => .exn (e _ _ h) q (RpL.mono e p r)
theorem RpL.mono (e : Same S S') (p : ∀ (n : Nat) (a : Addr), ad[n]? = some a → ad'[n]? = some a) : ∀ {vs : List V} {ds : List D}, RpL K S ad vs ds → RpL K S' ad' vs ds
  | _, _, .nil => .nil
  | _, _, .cons h r => .cons (Rp.mono e p h) (RpL.mono e p r)
end

theorem RpL.length {vs : List V} {ds : List D} (r : RpL K S ad vs ds) : vs.length = ds.length := by
  match r with
  | .nil => rfl
  | .cons _ t => rw [List.length_cons, List.length_cons, RpL.length t]
theorem RpL.get {vs : List V} {ds : List D} (r : RpL K S ad vs ds) {i : Nat} {d : D} (h : ds[i]? = some d) : ∃ v, vs[i]? = some v ∧ Rp K S ad v d := by
  match r, i, h with
  | .nil, _, h => simp at h
  | .cons p _, 0, h => simp at h; subst h; exact ⟨_, rfl, p⟩
  | .cons _ t, i + 1, h =>
    obtain ⟨v, h1, h2⟩ := RpL.get t (i := i) (by simpa using h)
    exact ⟨v, by simpa using h1, h2⟩
theorem RpL.getV {vs : List V} {ds : List D} (r : RpL K S ad vs ds) {i : Nat} {v : V} (h : vs[i]? = some v) : ∃ d, ds[i]? = some d ∧ Rp K S ad v d := by
  match r, i, h with
  | .nil, _, h => simp at h
  | .cons p _, 0, h => simp at h; subst h; exact ⟨_, rfl, p⟩
  | .cons _ t, i + 1, h =>
    obtain ⟨d, h1, h2⟩ := RpL.getV t (i := i) (by simpa using h)
    exact ⟨d, by simpa using h1, h2⟩
theorem RpL.append {vs : List V} {ds : List D} {ws : List V} {es : List D} (r : RpL K S ad vs ds) (q : RpL K S ad ws es) : RpL K S ad (vs ++ ws) (ds ++ es) := by
  match r with
  | .nil => exact q
  | .cons p t => exact .cons p (RpL.append t q)
theorem RpL.set {vs : List V} {ds : List D} (r : RpL K S ad vs ds) {v : V} {d : D} (h : Rp K S ad v d) (i : Nat) : RpL K S ad (vs.set i v) (ds.set i d) := by
  match r, i with
  | .nil, _ => exact .nil
  | .cons p t, 0 => exact .cons h t
  | .cons p t, i + 1 => exact .cons p (RpL.set t h i)
theorem RpL.take {vs : List V} {ds : List D} (r : RpL K S ad vs ds) (n : Nat) : RpL K S ad (vs.take n) (ds.take n) := by
  match r, n with
  | .nil, n => simp; exact .nil
  | .cons p t, 0 => exact .nil
  | .cons p t, n + 1 => exact .cons p (RpL.take t n)
theorem RpL.drop {vs : List V} {ds : List D} (r : RpL K S ad vs ds) (n : Nat) : RpL K S ad (vs.drop n) (ds.drop n) := by
  match r, n with
  | .nil, n => simp; exact .nil
  | .cons p t, 0 => exact .cons p t
  | .cons p t, n + 1 => exact RpL.drop t n
theorem RpL.erase {vs : List V} {ds : List D} (r : RpL K S ad vs ds) (i : Nat) : RpL K S ad (vs.eraseIdx i) (ds.eraseIdx i) := by
  match r, i with
  | .nil, n => simp; exact .nil
  | .cons p t, 0 => exact t
  | .cons p t, n + 1 => exact .cons p (RpL.erase t n)
theorem RpL.dropLast {vs : List V} {ds : List D} (r : RpL K S ad vs ds) : RpL K S ad vs.dropLast ds.dropLast := by
  rw [List.dropLast_eq_take, List.dropLast_eq_take, r.length]
  exact r.take _
theorem RpL.reverse {vs : List V} {ds : List D} (r : RpL K S ad vs ds) : RpL K S ad vs.reverse ds.reverse := by
  match r with
  | .nil => exact .nil
  | .cons p t =>
    rw [List.reverse_cons, List.reverse_cons]
    exact (RpL.reverse t).append (.cons p .nil)
theorem RpL.ints {ns : List Int} : ∀ {vs : List V}, RpL K S ad vs (ns.map D.int) → vs = ns.map V.int := by
  induction ns with
  | nil => intro vs h; cases h; rfl
  | cons n r ih =>
    intro vs h
    cases h with
    | cons p t =>
      cases p
      rw [ih t]
      rfl
theorem RpL.of_ints (ns : List Int) : RpL K S ad (ns.map V.int) (ns.map D.int) := by
  induction ns with
  | nil => exact .nil
  | cons n r ih => exact .cons (.int n) ih

/-- what a cell's node says of the heap -/
def NdAt (K : PySem.W.Frag) (S : Hp) (ad : Ad) (H : Hp) (a : Addr) : Nd → Prop
  | .lst ds => ∃ xs, H a = some (.lst xs) ∧ RpL K S ad xs ds
  | .dK kvs => ∃ ws : List (Key × V), H a = some (.dK ws) ∧ ws.map (·.1) = kvs.map (·.1) ∧ RpL K S ad (ws.map (·.2)) (kvs.map (·.2))
  | .dT kvs => ∃ ws : List (List Key × V), H a = some (.dT ws) ∧ ws.map (·.1) = kvs.map (·.1) ∧ RpL K S ad (ws.map (·.2)) (kvs.map (·.2))
  | .ins _ C fs => ∃ (dx : Addr) (ws : List (Str × V)), H a = some (.ins C dx ws) ∧ ws.map (·.1) = fs.map (·.1) ∧ RpL K S ad (ws.map (·.2)) (fs.map (·.2))
  | .lkK o ws kvs => H a = some (.frz o (.dK ws)) ∧ ws.map (·.1) = kvs.map (·.1) ∧ RpL K S ad (ws.map (·.2)) (kvs.map (·.2))
  | .lkT o ws kvs => H a = some (.frz o (.dT ws)) ∧ ws.map (·.1) = kvs.map (·.1) ∧ RpL K S ad (ws.map (·.2)) (kvs.map (·.2))
theorem NdAt.there {H : Hp} {a : Addr} {x : Nd} (h : NdAt K S ad H a x) : ∃ o, H a = some o := by
  cases x with
  | lst ds => obtain ⟨_, e, _⟩ := h; exact ⟨_, e⟩
  | dK ds => obtain ⟨_, e, _⟩ := h; exact ⟨_, e⟩
  | dT ds => obtain ⟨_, e, _⟩ := h; exact ⟨_, e⟩
  | ins i C ds => obtain ⟨_, _, e, _⟩ := h; exact ⟨_, e⟩
  | lkK o ws ds => obtain ⟨e, _⟩ := h; exact ⟨_, e⟩
  | lkT o ws ds => obtain ⟨e, _⟩ := h; exact ⟨_, e⟩
/-- a cell is no tuple -/
theorem NdAt.notup {H : Hp} {a : Addr} {x : Nd} {xs : List V} (h : NdAt K S ad H a x) (q : H a = some (.tup xs)) : False := by
  cases x with
  | lst ds => obtain ⟨_, e, _⟩ := h; rw [q] at e; cases e
  | dK ds => obtain ⟨_, e, _⟩ := h; rw [q] at e; cases e
  | dT ds => obtain ⟨_, e, _⟩ := h; rw [q] at e; cases e
  | ins i C ds => obtain ⟨_, _, e, _⟩ := h; rw [q] at e; cases e
  | lkK o ws ds => obtain ⟨e, _⟩ := h; rw [q] at e; cases e
  | lkT o ws ds => obtain ⟨e, _⟩ := h; rw [q] at e; cases e
theorem NdAt.mono {H H' : Hp} {a : Addr} {x : Nd} (e : Same S S') (p : ∀ (n : Nat) (a : Addr), ad[n]? = some a → ad'[n]? = some a) (g : ∀ o, H a = some o → H' a = some o) (h : NdAt K S ad H a x) : NdAt K S' ad' H' a x := by
  cases x with
  | lst ds => obtain ⟨xs, h1, h2⟩ := h; exact ⟨xs, g _ h1, h2.mono e p⟩
  | dK ds => obtain ⟨xs, h1, h2, h3⟩ := h; exact ⟨xs, g _ h1, h2, h3.mono e p⟩
  | dT ds => obtain ⟨xs, h1, h2, h3⟩ := h; exact ⟨xs, g _ h1, h2, h3.mono e p⟩
  | ins i C ds => obtain ⟨dx, xs, h1, h2, h3⟩ := h; exact ⟨dx, xs, g _ h1, h2, h3.mono e p⟩
  | lkK o ws ds => obtain ⟨h1, h2, h3⟩ := h; exact ⟨g _ h1, h2, h3.mono e p⟩
  | lkT o ws ds => obtain ⟨h1, h2, h3⟩ := h; exact ⟨g _ h1, h2, h3.mono e p⟩
end

/-- data in the heap: S what never changes again, ad where the cells stand; (H0, S0, ad0): the entry, whose other things stay -/
structure Core (K : PySem.W.Frag) (H0 S0 : Hp) (ad0 : Ad) (S : Hp) (ad : Ad) (tmp : List (V × D)) (ρ : Ro) (μ : Mu) (σ : L2.St) (H : Hp) : Prop where
  kp : ∀ b o, H0 b = some o → b ∉ ad → H b = some o
  s0 : Same S0 S
  sn : ∀ b o, S b = some o → S0 b = some o ∨ H0 b = none ∨ ∃ xs, H0 b = some (.tup xs)
  sh : Same S H
  a0 : ∃ more, ad = ad0 ++ more ∧ ∀ a ∈ more, H0 a = none
  as : ∀ a ∈ ad, S a = none
  nd : ad.Nodup
  al : ad.length = μ.length
  at_ : ∀ (n : Nat) (a : Addr) (x : Nd), ad[n]? = some a → μ[n]? = some x → NdAt K S ad H a x
  ln : ρ.length = σ.length
  sl : ∀ (i : Nat) (d : D), ρ[i]? = some (some d) → ∃ v, σ[i]? = some (some v) ∧ Rp K S ad v d
  tm : ∀ p ∈ tmp, Rp K S ad p.1 p.2
def Rel (K : PySem.W.Frag) (H0 S0 : Hp) (ad0 : Ad) (tmp : List (V × D)) (ρ : Ro) (μ : Mu) (σ : L2.St) (H : Hp) : Prop := ∃ S ad, Core K H0 S0 ad0 S ad tmp ρ μ σ H

section
variable {K : PySem.W.Frag} {H0 S0 : Hp} {ad0 : Ad} {S S' : Hp} {ad ad' : Ad} {tmp tmp' : List (V × D)} {ρ ρ' : Ro} {μ μ' : Mu} {σ σ' : L2.St} {H H' : Hp} {p : Addr} {v : V} {d : D}
theorem Core.live (c : Core K H0 S0 ad0 S ad tmp ρ μ σ H) {a : Addr} (h : a ∈ ad) : ∃ o, H a = some o := by
  obtain ⟨n, hn⟩ := List.getElem?_of_mem h
  have hl : n < ad.length := (List.getElem?_eq_some_iff.mp hn).1
  rw [c.al] at hl
  exact (c.at_ n a μ[n] hn (List.getElem?_eq_getElem hl)).there
theorem Core.notup (c : Core K H0 S0 ad0 S ad tmp ρ μ σ H) {a : Addr} {xs : List V} (q : H a = some (.tup xs)) : a ∉ ad := fun h => by
  obtain ⟨n, hn⟩ := List.getElem?_of_mem h
  have hl : n < ad.length := (List.getElem?_eq_some_iff.mp hn).1
  rw [c.al] at hl
  exact (c.at_ n a μ[n] hn (List.getElem?_eq_getElem hl)).notup q
theorem Core.fresh (c : Core K H0 S0 ad0 S ad tmp ρ μ σ H) (h : H p = none) : S p = none ∧ p ∉ ad ∧ H0 p = none := by
  have h1 : p ∉ ad := fun m => by
    obtain ⟨o, e⟩ := c.live m
    rw [h] at e; cases e
  refine ⟨?_, h1, ?_⟩
  · cases e : S p with
    | none => rfl
    | some o => rw [c.sh p o e] at h; cases h
  · cases e : H0 p with
    | none => rfl
    | some o => rw [c.kp p o e h1] at h; cases h
theorem same_new {o : HO} (h : H p = none) : Same H (upd H p o) := fun b u e => by rw [upd_ne (ne_of_none e h)]; exact e
theorem adp_refl : ∀ (n : Nat) (a : Addr), ad[n]? = some a → ad[n]? = some a := fun _ _ h => h
theorem adp_more {more : Ad} : ∀ (n : Nat) (a : Addr), ad[n]? = some a → (ad ++ more)[n]? = some a := fun n a h => by
  rw [List.getElem?_append_left (List.getElem?_eq_some_iff.mp h).1]; exact h
/-- a thing that never changes is new -/
theorem Core.stab (c : Core K H0 S0 ad0 S ad tmp ρ μ σ H) (h : H p = none) (o : HO) : Core K H0 S0 ad0 (upd S p o) ad tmp ρ μ σ (upd H p o) := by
  obtain ⟨hs, ha, h0⟩ := c.fresh h
  have e : Same S (upd S p o) := same_new hs
  refine ⟨fun b u e1 e2 => ?_, fun b u e1 => e b u (c.s0 b u e1), fun b u e1 => ?_, fun b u e1 => ?_, c.a0, fun a m => ?_, c.nd, c.al, fun n a x h1 h2 => ?_, c.ln, fun i d hd => ?_, fun q m => (c.tm q m).mono e adp_refl⟩
  · rw [upd_ne (ne_of_none e1 h0)]; exact c.kp b u e1 e2
  · by_cases hb : b = p
    · subst hb; exact .inr (.inl h0)
    · rw [upd_ne hb] at e1; exact c.sn b u e1
  · by_cases hb : b = p
    · subst hb; rw [upd_same] at e1 ⊢; exact e1
    · rw [upd_ne hb] at e1 ⊢; exact c.sh b u e1
  · have hne : a ≠ p := fun z => ha (by rw [← z]; exact m)
    rw [upd_ne hne]; exact c.as a m
  · have m : a ∈ ad := List.mem_of_getElem? h1
    exact (c.at_ n a x h1 h2).mono e adp_refl fun o e1 => by rw [upd_ne (ne_of_none e1 h)]; exact e1
  · obtain ⟨v, h1, h2⟩ := c.sl i d hd
    exact ⟨v, h1, h2.mono e adp_refl⟩
theorem Core.cell (c : Core K H0 S0 ad0 S ad tmp ρ μ σ H) (h : H p = none) {o : HO} {x : Nd} (hx : NdAt K S (ad ++ [p]) (upd H p o) p x) : Core K H0 S0 ad0 S (ad ++ [p]) tmp ρ (μ ++ [x]) σ (upd H p o) := by
  obtain ⟨hs, ha, h0⟩ := c.fresh h
  refine ⟨fun b u e1 e2 => ?_, c.s0, c.sn, fun b u e1 => ?_, ?_, fun a m => ?_, ?_, ?_, fun n a y h1 h2 => ?_, c.ln, fun i d hd => ?_, fun q m => (c.tm q m).mono (Same.refl S) adp_more⟩
  · have : b ∉ ad := fun m => e2 (List.mem_append_left _ m)
    rw [upd_ne (ne_of_none e1 h0)]; exact c.kp b u e1 this
  · rw [upd_ne (ne_of_none e1 hs)]; exact c.sh b u e1
  · obtain ⟨more, e, k⟩ := c.a0
    refine ⟨more ++ [p], by rw [e, List.append_assoc], fun a m => ?_⟩
    rcases List.mem_append.mp m with m | m
    · exact k a m
    · cases List.mem_singleton.mp m; exact h0
  · rcases List.mem_append.mp m with m | m
    · exact c.as a m
    · cases List.mem_singleton.mp m; exact hs
  · exact List.nodup_append.mpr ⟨c.nd, by simp, fun a m b m' => by cases List.mem_singleton.mp m'; exact fun z => ha (by rw [← z]; exact m)⟩
  · rw [List.length_append, List.length_append, c.al] <;> rfl
  · by_cases hn : n < ad.length
    · rw [List.getElem?_append_left hn] at h1
      rw [List.getElem?_append_left (by rw [← c.al]; exact hn)] at h2
      exact (c.at_ n a y h1 h2).mono (Same.refl S) adp_more fun o e1 => by rw [upd_ne (ne_of_none e1 h)]; exact e1
    · have e1 : n = ad.length := by
        have := (List.getElem?_eq_some_iff.mp h1).1
        rw [List.length_append] at this
        have : n < ad.length + 1 := this
        omega
      subst e1
      rw [List.getElem?_append_right (Nat.le_refl _)] at h1
      rw [List.getElem?_append_right (by rw [c.al]; exact Nat.le_refl _)] at h2
      rw [c.al] at h2
      simp at h1 h2
      subst h1; subst h2
      exact hx
  · obtain ⟨v, h1, h2⟩ := c.sl i d hd
    exact ⟨v, h1, h2.mono (Same.refl S) adp_more⟩
/-- a tuple that stands is stable -/
theorem Core.tupS (c : Core K H0 S0 ad0 S ad tmp ρ μ σ H) {xs : List V} (h : H p = some (.tup xs)) : Core K H0 S0 ad0 (upd S p (.tup xs)) ad tmp ρ μ σ H := by
  have e : Same S (upd S p (.tup xs)) := fun b u e1 => by
    by_cases hb : b = p
    · subst hb; have := c.sh _ _ e1; rw [h] at this; rw [upd_same]; exact this
    · rw [upd_ne hb]; exact e1
  refine { c with s0 := fun b u e1 => e b u (c.s0 b u e1), sn := fun b u e1 => ?_, sh := fun b u e1 => ?_, as := fun a m => ?_, at_ := fun n a x e1 e2 => (c.at_ n a x e1 e2).mono e adp_refl fun _ z => z, sl := fun i d hd => ?_, tm := fun q m => (c.tm q m).mono e adp_refl }
  · by_cases hb : b = p
    · subst hb
      rw [upd_same] at e1
      cases e0 : H0 b with
      | none => exact .inr (.inl rfl)
      | some u' =>
        have q := c.kp b u' e0 (c.notup h)
        rw [h] at q
        cases q
        exact .inr (.inr ⟨_, rfl⟩)
    · rw [upd_ne hb] at e1; exact c.sn b u e1
  · by_cases hb : b = p
    · subst hb; rw [upd_same] at e1; rw [h]; exact e1
    · rw [upd_ne hb] at e1; exact c.sh b u e1
  · have hne : a ≠ p := fun z => c.notup h (by rw [← z]; exact m)
    rw [upd_ne hne]; exact c.as a m
  · obtain ⟨v, g1, g2⟩ := c.sl i d hd
    exact ⟨v, g1, g2.mono e adp_refl⟩
/-- a cell is written -/
theorem Core.wr (c : Core K H0 S0 ad0 S ad tmp ρ μ σ H) {n : Nat} {a : Addr} (ha : ad[n]? = some a) {o : HO} {x : Nd} (hx : NdAt K S ad (upd H a o) a x) : Core K H0 S0 ad0 S ad tmp ρ (μ.set n x) σ (upd H a o) := by
  have m0 : a ∈ ad := List.mem_of_getElem? ha
  refine ⟨fun b u e1 e2 => ?_, c.s0, c.sn, fun b u e1 => ?_, c.a0, c.as, c.nd, by rw [List.length_set]; exact c.al, fun k b y h1 h2 => ?_, c.ln, c.sl, c.tm⟩
  · rw [upd_ne (fun z => e2 (by rw [z]; exact m0))]; exact c.kp b u e1 e2
  · rw [upd_ne (fun z => by rw [z, c.as a m0] at e1; cases e1)]; exact c.sh b u e1
  · by_cases hk : k = n
    · subst hk
      have hl : k < μ.length := by rw [← c.al]; exact (List.getElem?_eq_some_iff.mp h1).1
      rw [List.getElem?_set_self hl] at h2
      rw [ha] at h1
      cases h1; cases h2
      exact hx
    · rw [List.getElem?_set_ne (fun z => hk z.symm)] at h2
      have hne : b ≠ a := fun z => hk (by subst z; exact (nd_ix c.nd h1 ha))
      exact (c.at_ k b y h1 h2).mono (Same.refl S) adp_refl fun o e1 => by rw [upd_ne hne]; exact e1
theorem Core.tmps (c : Core K H0 S0 ad0 S ad tmp ρ μ σ H) (h : ∀ p ∈ tmp', Rp K S ad p.1 p.2) : Core K H0 S0 ad0 S ad tmp' ρ μ σ H := { c with tm := h }
theorem Core.push (c : Core K H0 S0 ad0 S ad tmp ρ μ σ H) (h : Rp K S ad v d) : Core K H0 S0 ad0 S ad ((v, d) :: tmp) ρ μ σ H := c.tmps fun q m => by
  rcases List.mem_cons.mp m with e | m
  · subst e; exact h
  · exact c.tm q m
theorem Core.pop {q : V × D} (c : Core K H0 S0 ad0 S ad (q :: tmp) ρ μ σ H) : Core K H0 S0 ad0 S ad tmp ρ μ σ H := c.tmps fun r m => c.tm r (List.mem_cons_of_mem _ m)
theorem Core.hd {q : V × D} (c : Core K H0 S0 ad0 S ad (q :: tmp) ρ μ σ H) : Rp K S ad q.1 q.2 := c.tm q List.mem_cons_self
theorem Core.setv (c : Core K H0 S0 ad0 S ad tmp ρ μ σ H) (h : Rp K S ad v d) (i : Nat) : Core K H0 S0 ad0 S ad tmp (ρ.set i (some d)) μ (σ.set i (some v)) H := by
  refine { c with ln := by rw [List.length_set, List.length_set]; exact c.ln, sl := fun j e hj => ?_ }
  by_cases hji : j = i
  · subst hji
    have hl : j < ρ.length := by
      have := (List.getElem?_eq_some_iff.mp hj).1
      rw [List.length_set] at this; exact this
    rw [List.getElem?_set_self hl] at hj
    cases hj
    exact ⟨v, by rw [List.getElem?_set_self (by rw [← c.ln]; exact hl)], h⟩
  · rw [List.getElem?_set_ne (fun z => hji z.symm)] at hj ⊢
    exact c.sl j e hj
theorem Core.unset (c : Core K H0 S0 ad0 S ad tmp ρ μ σ H) (i : Nat) : Core K H0 S0 ad0 S ad tmp (ρ.set i none) μ (σ.set i none) H := by
  refine { c with ln := by rw [List.length_set, List.length_set]; exact c.ln, sl := fun j e hj => ?_ }
  by_cases hji : j = i
  · subst hji
    have hl : j < ρ.length := by
      have := (List.getElem?_eq_some_iff.mp hj).1
      rw [List.length_set] at this; exact this
    rw [List.getElem?_set_self hl] at hj
    cases hj
  · rw [List.getElem?_set_ne (fun z => hji z.symm)] at hj ⊢
    exact c.sl j e hj
/-- from here on: a new entry -/
theorem Core.here (c : Core K H0 S0 ad0 S ad tmp ρ μ σ H) : Core K H S ad S ad tmp ρ μ σ H :=
  ⟨fun _ _ e _ => e, Same.refl S, fun _ _ e => .inl e, c.sh, ⟨[], by simp, by simp⟩, c.as, c.nd, c.al, c.at_, c.ln, c.sl, c.tm⟩
/-- what was done from a later entry on -/
theorem Core.trans {tmp2 : List (V × D)} {ρ2 : Ro} {μ2 : Mu} {σ2 : L2.St} (c : Core K H0 S0 ad0 S ad tmp ρ μ σ H) (c' : Core K H S ad S' ad' tmp2 ρ2 μ2 σ2 H') : Core K H0 S0 ad0 S' ad' tmp2 ρ2 μ2 σ2 H' := by
  obtain ⟨more, e1, k1⟩ := c.a0
  obtain ⟨more', e2, k2⟩ := c'.a0
  refine { c' with kp := fun b o e n => ?_, s0 := fun b o e => c'.s0 b o (c.s0 b o e), sn := fun b o e => ?_, a0 := ⟨more ++ more', by rw [e2, e1, List.append_assoc], fun a m => ?_⟩ }
  · exact c'.kp b o (c.kp b o e fun m => n (by rw [e2]; exact List.mem_append_left _ m)) n
  · rcases c'.sn b o e with h | h | ⟨xs, h⟩
    · exact c.sn b o h
    · exact .inr (.inl (c.fresh h).2.2)
    · cases e0 : H0 b with
      | none => exact .inr (.inl rfl)
      | some u =>
        have q := c.kp b u e0 (c.notup h)
        rw [h] at q
        cases q
        exact .inr (.inr ⟨_, rfl⟩)
  · rcases List.mem_append.mp m with m | m
    · exact k1 a m
    · exact (c.fresh (k2 a m)).2.2
/-- the frame: what stood ahead of a later entry's end stands -/
theorem Core.adp (c : Core K H0 S0 ad0 S ad tmp ρ μ σ H) : ∀ (n : Nat) (a : Addr), ad0[n]? = some a → ad[n]? = some a := by
  obtain ⟨more, e, _⟩ := c.a0
  rw [e]; exact adp_more
/-- the slots and temporaries of ahead, behind what left them alone -/
theorem Core.keep {tmp2 : List (V × D)} {ρ2 : Ro} {σ2 : L2.St} (c : Core K H0 S0 ad0 S ad tmp ρ μ σ H) (c' : Core K H S ad S' ad' tmp2 ρ2 μ' σ2 H') : Core K H0 S0 ad0 S' ad' (tmp2 ++ tmp) ρ μ' σ H' := by
  have t := c.trans c'
  refine { t with ln := c.ln, sl := fun i d h => ?_, tm := fun q m => ?_ }
  · obtain ⟨v, h1, h2⟩ := c.sl i d h
    exact ⟨v, h1, h2.mono c'.s0 c'.adp⟩
  · rcases List.mem_append.mp m with m | m
    · exact c'.tm q m
    · exact (c.tm q m).mono c'.s0 c'.adp
end

/-! ### results -/
inductive Res (α : Type) where
  | val (a : α) (μ : Mu)
  | exc (x : Ex) (μ : Mu)
  | fail
def Res.bind {α β : Type} (r : Res α) (k : α → Mu → Res β) : Res β := match r with
  | .val a μ => k a μ
  | .exc x μ => .exc x μ
  | .fail => .fail
@[simp] theorem bind_val {α β : Type} (a : α) (μ : Mu) (k : α → Mu → Res β) : (Res.val a μ).bind k = k a μ := rfl
@[simp] theorem bind_exc {α β : Type} (x : Ex) (μ : Mu) (k : α → Mu → Res β) : (Res.exc x μ : Res α).bind k = .exc x μ := rfl
@[simp] theorem bind_fail {α β : Type} (k : α → Mu → Res β) : (Res.fail : Res α).bind k = .fail := rfl
inductive Out where
  | nx (ρ : Ro) (μ : Mu) | ret (d : D) (μ : Mu) | bk (ρ : Ro) (μ : Mu) | ct (ρ : Ro) (μ : Mu) | exc (x : Ex) (ρ : Ro) (μ : Mu) | fail
abbrev EF := Ro → Mu → Res D
abbrev TF := Ro → Mu → Res Bool
abbrev AF := Ro → Mu → Res (List D)
abbrev SF := Ro → Mu → Out
/-- what is wished for where an exception leaves -/
abbrev WX := Value → Option Addr → L2.St → Hp → Prop
/-- an exception in flight -/
def RelX (K : PySem.W.Frag) (H0 S0 : Hp) (ad0 : Ad) (tmp : List (V × D)) (ρ : Ro) (μ : Mu) (σ : L2.St) (H : Hp) (x : Ex) (cls : Value) (dd : Option Addr) : Prop :=
  cls = x.cls ∧ ∃ S ad, Core K H0 S0 ad0 S ad tmp ρ μ σ H ∧ ((x.fs = [] ∧ dd = none) ∨ x.fs ≠ [] ∧ ∃ (a : Addr) (ws : List (Str × V)), dd = some a ∧ S a = some (.xd ws) ∧ ws.map (·.1) = x.fs.map (·.1) ∧ RpL K S ad (ws.map (·.2)) (x.fs.map (·.2)))
def PostE (K : PySem.W.Frag) (W : WX) (H0 S0 : Hp) (ad0 : Ad) (tmp : List (V × D)) (ρ : Ro) (σ : L2.St) (Q : VK) : Res D → Prop
  | .val d μ => ∀ v H, Rel K H0 S0 ad0 ((v, d) :: tmp) ρ μ σ H → Q v H
  | .exc x μ => ∀ cls dd H, RelX K H0 S0 ad0 tmp ρ μ σ H x cls dd → W cls dd σ H
  | .fail => False
def PostT (K : PySem.W.Frag) (W : WX) (H0 S0 : Hp) (ad0 : Ad) (tmp : List (V × D)) (ρ : Ro) (σ : L2.St) (Q : Bool → Hp → Prop) : Res Bool → Prop
  | .val b μ => ∀ H, Rel K H0 S0 ad0 tmp ρ μ σ H → Q b H
  | .exc x μ => ∀ cls dd H, RelX K H0 S0 ad0 tmp ρ μ σ H x cls dd → W cls dd σ H
  | .fail => False
def PostA (K : PySem.W.Frag) (W : WX) (H0 S0 : Hp) (ad0 : Ad) (tmp : List (V × D)) (ρ : Ro) (σ : L2.St) (Q : List V → Hp → Prop) : Res (List D) → Prop
  | .val ds μ => ∀ vs H, vs.length = ds.length → Rel K H0 S0 ad0 (vs.zip ds ++ tmp) ρ μ σ H → Q vs H
  | .exc x μ => ∀ cls dd H, RelX K H0 S0 ad0 tmp ρ μ σ H x cls dd → W cls dd σ H
  | .fail => False
def PostS (K : PySem.W.Frag) (W : WX) (H0 S0 : Hp) (ad0 : Ad) (tmp : List (V × D)) (D : Ends) : Out → Prop
  | .nx ρ μ => ∀ σ H, Rel K H0 S0 ad0 tmp ρ μ σ H → D.nx σ H
  | .bk ρ μ => ∀ σ H, Rel K H0 S0 ad0 tmp ρ μ σ H → D.bk σ H
  | .ct ρ μ => ∀ σ H, Rel K H0 S0 ad0 tmp ρ μ σ H → D.ct σ H
  | .ret d μ => ∀ v ρ σ H, Rel K H0 S0 ad0 ((v, d) :: tmp) ρ μ σ H → D.rt v H
  | .exc x ρ μ => ∀ cls dd σ H, RelX K H0 S0 ad0 tmp ρ μ σ H x cls dd → W cls dd σ H
  | .fail => False
structure SimE (K : PySem.W.Frag) (W : WX) (t : TE) (f : EF) : Prop where
  run : ∀ {H0 S0 : Hp} {ad0 : Ad} {tmp : List (V × D)} {ρ : Ro} {μ : Mu} {σ : L2.St} {H : Hp} {Q : VK}, Rel K H0 S0 ad0 tmp ρ μ σ H → PostE K W H0 S0 ad0 tmp ρ σ Q (f ρ μ) → t σ H Q
structure SimT (K : PySem.W.Frag) (W : WX) (t : TT) (f : TF) : Prop where
  run : ∀ {H0 S0 : Hp} {ad0 : Ad} {tmp : List (V × D)} {ρ : Ro} {μ : Mu} {σ : L2.St} {H : Hp} {Q : Bool → Hp → Prop}, Rel K H0 S0 ad0 tmp ρ μ σ H → PostT K W H0 S0 ad0 tmp ρ σ Q (f ρ μ) → t σ H Q
structure SimA (K : PySem.W.Frag) (W : WX) (t : TA) (f : AF) : Prop where
  run : ∀ {H0 S0 : Hp} {ad0 : Ad} {tmp : List (V × D)} {ρ : Ro} {μ : Mu} {σ : L2.St} {H : Hp} {Q : List V → Hp → Prop}, Rel K H0 S0 ad0 tmp ρ μ σ H → PostA K W H0 S0 ad0 tmp ρ σ Q (f ρ μ) → t σ H Q
structure SimS (K : PySem.W.Frag) (W : WX) (t : TS) (f : SF) : Prop where
  run : ∀ {H0 S0 : Hp} {ad0 : Ad} {tmp : List (V × D)} {ρ : Ro} {μ : Mu} {σ : L2.St} {H : Hp} {E : Ends}, Rel K H0 S0 ad0 tmp ρ μ σ H → PostS K W H0 S0 ad0 tmp E (f ρ μ) → t E σ H
/-- an operation on two values -/
abbrev GF := D → D → Mu → Res D
structure SimO (K : PySem.W.Frag) (W : WX) (r : R2) (g : GF) : Prop where
  run : ∀ {H0 S0 : Hp} {ad0 : Ad} {tmp : List (V × D)} {ρ : Ro} {μ : Mu} {σ : L2.St} {H : Hp} {Q : VK} {x y : V} {d e : D}, Rel K H0 S0 ad0 ((y, e) :: (x, d) :: tmp) ρ μ σ H → PostE K W H0 S0 ad0 tmp ρ σ Q (g d e μ) → r x y H Q
/-! ### the judgements -/
def DE (X : Cx) (W : WX) (e : Expr) (f : EF) : Prop := ∃ t, PE X e t ∧ SimE X.K W t f
def DT (X : Cx) (W : WX) (e : Expr) (f : TF) : Prop := ∃ t, PT X e t ∧ SimT X.K W t f
def DW (X : Cx) (W : WX) (e : Expr) (f : TF) : Prop := ∃ t, PW X e t ∧ SimT X.K W t f
def DA (X : Cx) (W : WX) (es : List Expr) (f : AF) : Prop := ∃ t, PA X es t ∧ SimA X.K W t f
def DS (X : Cx) (W : WX) (st : Stmt) (f : SF) : Prop := ∃ t, PS X st t ∧ SimS X.K W t f
def DSs (X : Cx) (W : WX) (st : List Stmt) (f : SF) : Prop := ∃ t, PSs X st t ∧ SimS X.K W t f
end Dn

/-! Dn2: expressions, tests, statements, loops. -/
namespace Dn
open PySem PySem.Spec PyProof.Rows L2

section
variable {K : PySem.W.Frag} {W : WX} {H0 S0 : Hp} {ad0 : Ad} {tmp tmp' : List (V × D)} {ρ ρ' : Ro} {μ μ' : Mu} {σ σ' : L2.St} {H H' : Hp} {x y v : V} {d e : D} {q : V × D}
theorem Rel.pop (r : Rel K H0 S0 ad0 (q :: tmp) ρ μ σ H) : Rel K H0 S0 ad0 tmp ρ μ σ H := let ⟨S, ad, c⟩ := r; ⟨S, ad, c.pop⟩
theorem Rel.two (r : Rel K H0 S0 ad0 ((y, e) :: (x, d) :: tmp) ρ μ σ H) : ∃ S ad, Core K H0 S0 ad0 S ad tmp ρ μ σ H ∧ Rp K S ad x d ∧ Rp K S ad y e := let ⟨S, ad, c⟩ := r; ⟨S, ad, c.pop.pop, c.pop.hd, c.hd⟩
theorem Rel.one (r : Rel K H0 S0 ad0 ((x, d) :: tmp) ρ μ σ H) : ∃ S ad, Core K H0 S0 ad0 S ad tmp ρ μ σ H ∧ Rp K S ad x d := let ⟨S, ad, c⟩ := r; ⟨S, ad, c.pop, c.hd⟩
theorem Rel.sub (r : Rel K H0 S0 ad0 tmp ρ μ σ H) (h : ∀ p ∈ tmp', p ∈ tmp) : Rel K H0 S0 ad0 tmp' ρ μ σ H := let ⟨S, ad, c⟩ := r; ⟨S, ad, c.tmps fun p m => c.tm p (h p m)⟩
theorem RelX.sub {x : Ex} {cls : Value} {dd : Option Addr} (r : RelX K H0 S0 ad0 tmp ρ μ σ H x cls dd) (h : ∀ p ∈ tmp', p ∈ tmp) : RelX K H0 S0 ad0 tmp' ρ μ σ H x cls dd :=
  let ⟨e, S, ad, c, k⟩ := r; ⟨e, S, ad, c.tmps fun p m => c.tm p (h p m), k⟩
theorem RelX.pop {x : Ex} {cls : Value} {dd : Option Addr} (r : RelX K H0 S0 ad0 (q :: tmp) ρ μ σ H x cls dd) : RelX K H0 S0 ad0 tmp ρ μ σ H x cls dd := r.sub fun _ m => List.mem_cons_of_mem _ m
/-- a value that holds whatever the heap is -/
def Flat (v : V) (d : D) : Prop := ∀ (K : PySem.W.Frag) (S : Hp) (ad : Ad), Rp K S ad v d
theorem flat_int (i : Int) : Flat (.int i) (.int i) := fun _ _ _ => .int i
theorem flat_bl (i : Bool) : Flat (.bl i) (.bl i) := fun _ _ _ => .bl i
theorem flat_str (i : Str) : Flat (.str i) (.str i) := fun _ _ _ => .str i
theorem flat_non : Flat .non .non := fun _ _ _ => .non
theorem Core.flat {S : Hp} {ad : Ad} (c : Core K H0 S0 ad0 S ad tmp ρ μ σ H) (f : Flat v d) : Rel K H0 S0 ad0 ((v, d) :: tmp) ρ μ σ H := ⟨S, ad, c.push (f K S ad)⟩
theorem Rel.flat (r : Rel K H0 S0 ad0 tmp ρ μ σ H) (f : Flat v d) : Rel K H0 S0 ad0 ((v, d) :: tmp) ρ μ σ H := let ⟨S, ad, c⟩ := r; c.flat f

/-! ### expressions -/
@[simp] def eVar (i : Nat) : EF := fun ρ μ => match ρ[i]? with
  | some (some d) => .val d μ
  | _ => .fail
theorem simE_var (i : Nat) : SimE K W (tVar i) (eVar i) := ⟨fun {H0 S0 ad0 tmp ρ μ σ H Q} r h => by
  obtain ⟨S, ad, c⟩ := r
  unfold eVar at h
  split at h
  · rename_i d hd
    obtain ⟨v, h1, h2⟩ := c.sl i d hd
    exact ⟨v, h1, h v H ⟨S, ad, c.push h2⟩⟩
  · exact h.elim⟩
@[simp] def eC (d : D) : EF := fun _ μ => .val d μ
theorem simE_c (f : Flat v d) : SimE K W (tC v) (eC d) := ⟨fun r h => h v _ (r.flat f)⟩
@[simp] def eOp (g : GF) (a b : EF) : EF := fun ρ μ => (a ρ μ).bind fun x μ1 => (b ρ μ1).bind fun y μ2 => g x y μ2
theorem simE_op {ta tb : TE} {fa fb : EF} {r : R2} {g : GF} (ha : SimE K W ta fa) (hb : SimE K W tb fb) (hr : SimO K W r g) : SimE K W (tOp r ta tb) (eOp g fa fb) := ⟨fun {H0 S0 ad0 tmp ρ μ σ H Q} R h => by
  refine ha.run R ?_
  unfold eOp at h
  cases e1 : fa ρ μ with
  | fail => rw [e1] at h; exact h.elim
  | exc x μ1 => rw [e1] at h; exact h
  | val d1 μ1 =>
    rw [e1] at h
    intro v1 H1 R1
    refine hb.run R1 ?_
    have h : PostE K W H0 S0 ad0 tmp ρ σ Q ((fb ρ μ1).bind fun y μ2 => g d1 y μ2) := h
    cases e2 : fb ρ μ1 with
    | fail => rw [e2] at h; exact h.elim
    | exc x μ1 => rw [e2] at h; exact fun cls dd H r => h cls dd H r.pop
    | val d2 μ2 =>
      rw [e2] at h
      intro v2 H2 R2
      exact hr.run R2 h⟩
@[simp] def eUn (g : D → Mu → Res D) (a : EF) : EF := fun ρ μ => (a ρ μ).bind g
/-- an operation on one value -/
structure SimU (K : PySem.W.Frag) (W : WX) (r : V → Hp → VK → Prop) (g : D → Mu → Res D) : Prop where
  run : ∀ {H0 S0 : Hp} {ad0 : Ad} {tmp : List (V × D)} {ρ : Ro} {μ : Mu} {σ : L2.St} {H : Hp} {Q : VK} {x : V} {d : D}, Rel K H0 S0 ad0 ((x, d) :: tmp) ρ μ σ H → PostE K W H0 S0 ad0 tmp ρ σ Q (g d μ) → r x H Q
theorem simE_un {ta : TE} {fa : EF} {r : V → Hp → VK → Prop} {g : D → Mu → Res D} (ha : SimE K W ta fa) (hr : SimU K W r g) : SimE K W (tUn r ta) (eUn g fa) := ⟨fun {H0 S0 ad0 tmp ρ μ σ H Q} R h => by
  refine ha.run R ?_
  unfold eUn at h
  cases e1 : fa ρ μ with
  | fail => rw [e1] at h; exact h.elim
  | exc x μ1 => rw [e1] at h; exact h
  | val d1 μ1 =>
    rw [e1] at h
    exact fun v1 H1 R1 => hr.run R1 h⟩
/-- an operation on a list of values -/
structure SimC (K : PySem.W.Frag) (W : WX) (r : List V → Hp → VK → Prop) (g : List D → Mu → Res D) : Prop where
  run : ∀ {H0 S0 : Hp} {ad0 : Ad} {tmp : List (V × D)} {ρ : Ro} {μ : Mu} {σ : L2.St} {H : Hp} {Q : VK} {xs : List V} {ds : List D}, xs.length = ds.length → Rel K H0 S0 ad0 (xs.zip ds ++ tmp) ρ μ σ H → PostE K W H0 S0 ad0 tmp ρ σ Q (g ds μ) → r xs H Q
@[simp] def aNil : AF := fun _ μ => .val [] μ
@[simp] def aCons (f : EF) (g : AF) : AF := fun ρ μ => (f ρ μ).bind fun x μ1 => (g ρ μ1).bind fun xs μ2 => .val (x :: xs) μ2
theorem simA_nil : SimA K W tNil aNil := ⟨fun r h => h [] _ rfl r⟩
theorem simA_cons {te : TE} {tr : TA} {f : EF} {g : AF} (he : SimE K W te f) (hr : SimA K W tr g) : SimA K W (tCons te tr) (aCons f g) := ⟨fun {H0 S0 ad0 tmp ρ μ σ H Q} R h => by
  refine he.run R ?_
  unfold aCons at h
  cases e1 : f ρ μ with
  | fail => rw [e1] at h; exact h.elim
  | exc x μ1 => rw [e1] at h; exact h
  | val d1 μ1 =>
    rw [e1] at h
    intro v1 H1 R1
    refine hr.run R1 ?_
    have h : PostA K W H0 S0 ad0 tmp ρ σ Q ((g ρ μ1).bind fun xs μ2 => .val (d1 :: xs) μ2) := h
    cases e2 : g ρ μ1 with
    | fail => rw [e2] at h; exact h.elim
    | exc x μ1 => rw [e2] at h; exact fun cls dd H r => h cls dd H r.pop
    | val d2 μ2 =>
      rw [e2] at h
      intro vs H2 hl R2
      refine h (v1 :: vs) H2 (by rw [List.length_cons, List.length_cons, hl]) (R2.sub fun p m => ?_)
      rcases List.mem_append.mp m with m | m
      · rcases List.mem_cons.mp m with m | m
        · exact List.mem_append_right _ (by rw [m]; exact List.mem_cons_self)
        · exact List.mem_append_left _ m
      · exact List.mem_append_right _ (List.mem_cons_of_mem _ m)⟩
@[simp] def eCB (g : List D → Mu → Res D) (a : AF) : EF := fun ρ μ => (a ρ μ).bind g
theorem simE_cb {ta : TA} {fa : AF} {r : List V → Hp → VK → Prop} {g : List D → Mu → Res D} (ha : SimA K W ta fa) (hr : SimC K W r g) : SimE K W (tCB r ta) (eCB g fa) := ⟨fun {H0 S0 ad0 tmp ρ μ σ H Q} R h => by
  refine ha.run R ?_
  unfold eCB at h
  cases e1 : fa ρ μ with
  | fail => rw [e1] at h; exact h.elim
  | exc x μ1 => rw [e1] at h; exact h
  | val d1 μ1 =>
    rw [e1] at h
    exact fun v1 H1 hl R1 => hr.run hl R1 h⟩
/-! the lists of temporaries as one fact -/
theorem rpL_zip {S : Hp} {ad : Ad} : ∀ {xs : List V} {ds : List D}, xs.length = ds.length → (∀ p ∈ xs.zip ds, Rp K S ad p.1 p.2) → RpL K S ad xs ds
  | [], [], _, _ => .nil
  | v :: xs, d :: ds, hl, h => .cons (h (v, d) List.mem_cons_self) (rpL_zip (by simpa using hl) fun p m => h p (List.mem_cons_of_mem _ m))
  | [], _ :: _, hl, _ => by simp at hl
  | _ :: _, [], hl, _ => by simp at hl
theorem zip_rpL {S : Hp} {ad : Ad} : ∀ {xs : List V} {ds : List D}, RpL K S ad xs ds → ∀ p ∈ xs.zip ds, Rp K S ad p.1 p.2
  | _, _, .nil, p, m => by simp at m
  | _, _, .cons h t, p, m => by
    rcases List.mem_cons.mp m with e | m
    · subst e; exact h
    · exact zip_rpL t p m
theorem Rel.args {xs : List V} {ds : List D} (hl : xs.length = ds.length) (r : Rel K H0 S0 ad0 (xs.zip ds ++ tmp) ρ μ σ H) : ∃ S ad, Core K H0 S0 ad0 S ad tmp ρ μ σ H ∧ RpL K S ad xs ds := by
  obtain ⟨S, ad, c⟩ := r
  exact ⟨S, ad, c.tmps fun p m => c.tm p (List.mem_append_right _ m), rpL_zip hl fun p m => c.tm p (List.mem_append_left _ m)⟩
/-- a new tuple, a new list -/
@[simp] def eTup (a : AF) : EF := fun ρ μ => (a ρ μ).bind fun ds μ1 => if ds.length ≤ 100000 then .val (.tup ds) μ1 else .fail
@[simp] def eLst (a : AF) : EF := fun ρ μ => (a ρ μ).bind fun ds μ1 => if ds.length ≤ 100000 then .val (.lst ds) μ1 else .fail
/-- a new list that will change -/
@[simp] def eNew (a : AF) : EF := fun ρ μ => (a ρ μ).bind fun ds μ1 => if ds.length ≤ 100000 then .val (.ref μ1.length) (μ1 ++ [.lst ds]) else .fail
theorem sz_of {n : Nat} (h : n ≤ 100000) : n ≤ sizeLine := Nat.le_trans h (by decide)
theorem sz_lt {n : Nat} (h : n < 100000) : n < sizeLine := Nat.lt_of_lt_of_le h (by decide)
theorem newTup {S : Hp} {ad : Ad} {xs : List V} {ds : List D} {p : Addr} (c : Core K H0 S0 ad0 S ad tmp ρ μ σ H) (r : RpL K S ad xs ds) (h : H p = none) : Rel K H0 S0 ad0 ((.ref p, .tup ds) :: tmp) ρ μ σ (upd H p (.tup xs)) :=
  ⟨_, ad, (c.stab h (.tup xs)).push (.tup upd_same (r.mono (same_new (c.fresh h).1) adp_refl))⟩
theorem newLst {S : Hp} {ad : Ad} {xs : List V} {ds : List D} {p : Addr} (c : Core K H0 S0 ad0 S ad tmp ρ μ σ H) (r : RpL K S ad xs ds) (h : H p = none) : Rel K H0 S0 ad0 ((.ref p, .lst ds) :: tmp) ρ μ σ (upd H p (.lst xs)) :=
  ⟨_, ad, (c.stab h (.lst xs)).push (.lst upd_same (r.mono (same_new (c.fresh h).1) adp_refl))⟩
theorem newCell {S : Hp} {ad : Ad} {xs : List V} {ds : List D} {p : Addr} (c : Core K H0 S0 ad0 S ad tmp ρ μ σ H) (r : RpL K S ad xs ds) (h : H p = none) : Rel K H0 S0 ad0 ((.ref p, .ref μ.length) :: tmp) ρ (μ ++ [.lst ds]) σ (upd H p (.lst xs)) := by
  have c2 := c.cell h (o := .lst xs) (x := .lst ds) ⟨xs, upd_same, r.mono (Same.refl S) adp_more⟩
  exact ⟨_, _, c2.push (.ref (by rw [← c.al, List.getElem?_append_right (Nat.le_refl _)]; simp))⟩
theorem simE_tup {ta : TA} {fa : AF} (ha : SimA K W ta fa) : SimE K W (tTup ta) (eTup fa) := ⟨fun {H0 S0 ad0 tmp ρ μ σ H Q} R h => by
  refine ha.run R ?_
  unfold eTup at h
  cases e1 : fa ρ μ with
  | fail => rw [e1] at h; exact h.elim
  | exc x μ1 => rw [e1] at h; exact h
  | val ds μ1 =>
    rw [e1] at h
    intro xs H1 hl R1
    have h : PostE K W H0 S0 ad0 tmp ρ σ Q (if ds.length ≤ 100000 then .val (.tup ds) μ1 else .fail) := h
    split at h
    · rename_i hz
      obtain ⟨S, ad, c, r⟩ := R1.args hl
      exact ⟨sz_of (by rw [hl]; exact hz), fun p hp => h _ _ (newTup c r hp)⟩
    · exact h.elim⟩
theorem simE_lst {ta : TA} {fa : AF} (ha : SimA K W ta fa) : SimE K W (tLst ta) (eLst fa) := ⟨fun {H0 S0 ad0 tmp ρ μ σ H Q} R h => by
  refine ha.run R ?_
  unfold eLst at h
  cases e1 : fa ρ μ with
  | fail => rw [e1] at h; exact h.elim
  | exc x μ1 => rw [e1] at h; exact h
  | val ds μ1 =>
    rw [e1] at h
    intro xs H1 hl R1
    have h : PostE K W H0 S0 ad0 tmp ρ σ Q (if ds.length ≤ 100000 then .val (.lst ds) μ1 else .fail) := h
    split at h
    · rename_i hz
      obtain ⟨S, ad, c, r⟩ := R1.args hl
      exact ⟨sz_of (by rw [hl]; exact hz), fun p hp => h _ _ (newLst c r hp)⟩
    · exact h.elim⟩
theorem simE_new {ta : TA} {fa : AF} (ha : SimA K W ta fa) : SimE K W (tLst ta) (eNew fa) := ⟨fun {H0 S0 ad0 tmp ρ μ σ H Q} R h => by
  refine ha.run R ?_
  unfold eNew at h
  cases e1 : fa ρ μ with
  | fail => rw [e1] at h; exact h.elim
  | exc x μ1 => rw [e1] at h; exact h
  | val ds μ1 =>
    rw [e1] at h
    intro xs H1 hl R1
    have h : PostE K W H0 S0 ad0 tmp ρ σ Q (if ds.length ≤ 100000 then .val (.ref μ1.length) (μ1 ++ [.lst ds]) else .fail) := h
    split at h
    · rename_i hz
      obtain ⟨S, ad, c, r⟩ := R1.args hl
      exact ⟨sz_of (by rw [hl]; exact hz), fun p hp => h _ _ (newCell c r hp)⟩
    · exact h.elim⟩
@[simp] def eIf (t : TF) (a b : EF) : EF := fun ρ μ => (t ρ μ).bind fun c μ1 => match c with
  | true => a ρ μ1
  | false => b ρ μ1
theorem simE_if {t : TT} {ta tb : TE} {ft : TF} {fa fb : EF} (ht : SimT K W t ft) (ha : SimE K W ta fa) (hb : SimE K W tb fb) : SimE K W (tIf t ta tb) (eIf ft fa fb) := ⟨fun {H0 S0 ad0 tmp ρ μ σ H Q} R h => by
  refine ht.run R ?_
  unfold eIf at h
  cases e1 : ft ρ μ with
  | fail => rw [e1] at h; exact h.elim
  | exc x μ1 => rw [e1] at h; exact h
  | val c μ1 =>
    rw [e1] at h
    intro H1 R1
    cases c with
    | true => exact iteT (ha.run R1 h)
    | false => exact iteF (hb.run R1 h)⟩
/-! ### tests -/
@[simp] def tfB (f : EF) : TF := fun ρ μ => (f ρ μ).bind fun d μ1 => match d with
  | .bl b => .val b μ1
  | _ => .fail
theorem simT_b {t : TE} {f : EF} (h : SimE K W t f) : SimT K W (tTest t) (tfB f) := ⟨fun {H0 S0 ad0 tmp ρ μ σ H Q} R g => by
  refine h.run R ?_
  unfold tfB at g
  cases e1 : f ρ μ with
  | fail => rw [e1] at g; exact g.elim
  | exc x μ1 => rw [e1] at g; exact g
  | val d μ1 =>
    rw [e1] at g
    intro v H1 R1
    cases d <;> first | exact g.elim | skip
    rename_i b
    obtain ⟨S, ad, c, r⟩ := R1.one
    cases r
    exact ⟨b, rfl, g H1 ⟨S, ad, c⟩⟩⟩
theorem simT_B {t : TE} {f : EF} (h : SimE K W t f) : SimT K W (tB t) (tfB f) := ⟨fun R g => (simT_b h).run R g⟩
@[simp] def tfAnd (a b : TF) : TF := fun ρ μ => (a ρ μ).bind fun c μ1 => match c with
  | true => b ρ μ1
  | false => .val false μ1
@[simp] def tfOr (a b : TF) : TF := fun ρ μ => (a ρ μ).bind fun c μ1 => match c with
  | true => .val true μ1
  | false => b ρ μ1
@[simp] def tfNot (a : TF) : TF := fun ρ μ => (a ρ μ).bind fun c μ1 => .val (!c) μ1
theorem simT_and {t u : TT} {f g : TF} (ht : SimT K W t f) (hu : SimT K W u g) : SimT K W (tAnd t u) (tfAnd f g) := ⟨fun {H0 S0 ad0 tmp ρ μ σ H Q} R h => by
  refine ht.run R ?_
  unfold tfAnd at h
  cases e1 : f ρ μ with
  | fail => rw [e1] at h; exact h.elim
  | exc x μ1 => rw [e1] at h; exact h
  | val c μ1 =>
    rw [e1] at h
    intro H1 R1
    cases c with
    | true => exact iteT (hu.run R1 h)
    | false => exact iteF (h H1 R1)⟩
theorem simT_or {t u : TT} {f g : TF} (ht : SimT K W t f) (hu : SimT K W u g) : SimT K W (tOr t u) (tfOr f g) := ⟨fun {H0 S0 ad0 tmp ρ μ σ H Q} R h => by
  refine ht.run R ?_
  unfold tfOr at h
  cases e1 : f ρ μ with
  | fail => rw [e1] at h; exact h.elim
  | exc x μ1 => rw [e1] at h; exact h
  | val c μ1 =>
    rw [e1] at h
    intro H1 R1
    cases c with
    | true => exact iteT (h H1 R1)
    | false => exact iteF (hu.run R1 h)⟩
theorem simT_not {t : TT} {f : TF} (ht : SimT K W t f) : SimT K W (tNot t) (tfNot f) := ⟨fun {H0 S0 ad0 tmp ρ μ σ H Q} R h => by
  refine ht.run R ?_
  unfold tfNot at h
  cases e1 : f ρ μ with
  | fail => rw [e1] at h; exact h.elim
  | exc x μ1 => rw [e1] at h; exact h
  | val c μ1 =>
    rw [e1] at h
    exact fun H1 R1 => h H1 R1⟩
/-- and, or, not as values of truths -/
@[simp] def eT (t : TF) : EF := fun ρ μ => (t ρ μ).bind fun b μ1 => .val (.bl b) μ1
theorem simE_andV {ta tb : TE} {fa fb : EF} (ha : SimE K W ta fa) (hb : SimE K W tb fb) : SimE K W (tAndV ta tb) (eT (tfAnd (tfB fa) (tfB fb))) := ⟨fun {H0 S0 ad0 tmp ρ μ σ H Q} R h => by
  refine ha.run R ?_
  unfold eT tfAnd tfB at h
  cases e1 : fa ρ μ with
  | fail => rw [e1] at h; exact h.elim
  | exc x μ1 => rw [e1] at h; exact h
  | val d μ1 =>
    rw [e1] at h
    intro v H1 R1
    cases d <;> first | exact h.elim | skip
    rename_i b
    obtain ⟨S, ad, c, r⟩ := R1.one
    cases r
    refine ⟨b, rfl, ?_⟩
    cases b with
    | false => exact iteF (h _ H1 R1)
    | true =>
      refine iteT (hb.run ⟨S, ad, c⟩ ?_)
      have h : PostE K W H0 S0 ad0 tmp ρ σ Q (((fb ρ μ1).bind fun d μ1 => match d with
        | .bl b => .val b μ1
        | _ => .fail).bind fun b μ1 => .val (.bl b) μ1) := h
      cases e2 : fb ρ μ1 with
      | fail => rw [e2] at h; exact h.elim
      | exc x μ1 => rw [e2] at h; exact h
      | val d μ2 =>
        rw [e2] at h
        cases d <;> first | exact h.elim | exact h⟩
theorem simE_orV {ta tb : TE} {fa fb : EF} (ha : SimE K W ta fa) (hb : SimE K W tb fb) : SimE K W (tOrV ta tb) (eT (tfOr (tfB fa) (tfB fb))) := ⟨fun {H0 S0 ad0 tmp ρ μ σ H Q} R h => by
  refine ha.run R ?_
  unfold eT tfOr tfB at h
  cases e1 : fa ρ μ with
  | fail => rw [e1] at h; exact h.elim
  | exc x μ1 => rw [e1] at h; exact h
  | val d μ1 =>
    rw [e1] at h
    intro v H1 R1
    cases d <;> first | exact h.elim | skip
    rename_i b
    obtain ⟨S, ad, c, r⟩ := R1.one
    cases r
    refine ⟨b, rfl, ?_⟩
    cases b with
    | true => exact iteT (h _ H1 R1)
    | false =>
      refine iteF (hb.run ⟨S, ad, c⟩ ?_)
      have h : PostE K W H0 S0 ad0 tmp ρ σ Q (((fb ρ μ1).bind fun d μ1 => match d with
        | .bl b => .val b μ1
        | _ => .fail).bind fun b μ1 => .val (.bl b) μ1) := h
      cases e2 : fb ρ μ1 with
      | fail => rw [e2] at h; exact h.elim
      | exc x μ1 => rw [e2] at h; exact h
      | val d μ2 =>
        rw [e2] at h
        cases d <;> first | exact h.elim | exact h⟩
theorem simE_notV {ta : TE} {fa : EF} (ha : SimE K W ta fa) : SimE K W (tNotV ta) (eT (tfNot (tfB fa))) := ⟨fun {H0 S0 ad0 tmp ρ μ σ H Q} R h => by
  refine ha.run R ?_
  unfold eT tfNot tfB at h
  cases e1 : fa ρ μ with
  | fail => rw [e1] at h; exact h.elim
  | exc x μ1 => rw [e1] at h; exact h
  | val d μ1 =>
    rw [e1] at h
    intro v H1 R1
    cases d <;> first | exact h.elim | skip
    rename_i b
    obtain ⟨S, ad, c, r⟩ := R1.one
    cases r
    exact ⟨b, rfl, h _ H1 (c.flat (flat_bl _))⟩⟩

/-! ### targets -/
abbrev GT := D → Ro → Mu → Option (Ro × Mu)
structure SimG (K : PySem.W.Frag) (t : TG) (g : GT) : Prop where
  run : ∀ {H0 S0 : Hp} {ad0 : Ad} {tmp : List (V × D)} {ρ : Ro} {μ : Mu} {σ : L2.St} {H : Hp} {Q : L2.St → Hp → Prop} {v : V} {d : D} {ρ' : Ro} {μ' : Mu}, Rel K H0 S0 ad0 ((v, d) :: tmp) ρ μ σ H → g d ρ μ = some (ρ', μ') →
    (∀ σ' H', Rel K H0 S0 ad0 tmp ρ' μ' σ' H' → Q σ' H') → t v σ H Q
@[simp] def gN (i : Nat) : GT := fun d ρ μ => some (ρ.set i (some d), μ)
theorem simG_n (i : Nat) : SimG K (gName i) (gN i) := ⟨fun {H0 S0 ad0 tmp ρ μ σ H Q v d ρ' μ'} R e h => by
  cases e
  obtain ⟨S, ad, c, r⟩ := R.one
  exact h _ _ ⟨S, ad, c.setv r i⟩⟩
/-- a tuple's parts -/
abbrev GTs := List D → Ro → Mu → Option (Ro × Mu)
structure SimGs (K : PySem.W.Frag) (t : TGs) (g : GTs) : Prop where
  run : ∀ {H0 S0 : Hp} {ad0 : Ad} {tmp : List (V × D)} {ρ : Ro} {μ : Mu} {σ : L2.St} {H : Hp} {Q : L2.St → Hp → Prop} {xs : List V} {ds : List D} {ρ' : Ro} {μ' : Mu}, xs.length = ds.length → Rel K H0 S0 ad0 (xs.zip ds ++ tmp) ρ μ σ H → g ds ρ μ = some (ρ', μ') →
    (∀ σ' H', Rel K H0 S0 ad0 tmp ρ' μ' σ' H' → Q σ' H') → t xs σ H Q
@[simp] def gN0 : GTs := fun ds ρ μ => match ds with
  | [] => some (ρ, μ)
  | _ => none
@[simp] def gC (g : GT) (h : GTs) : GTs := fun ds ρ μ => match ds with
  | d :: r => (g d ρ μ).bind fun p => h r p.1 p.2
  | [] => none
theorem simGs_nil : SimGs K gNil gN0 := ⟨fun {H0 S0 ad0 tmp ρ μ σ H Q xs ds ρ' μ'} hl R e h => by
  cases ds with
  | nil =>
    cases e
    cases xs with
    | nil => exact ⟨rfl, h _ _ R⟩
    | cons _ _ => simp at hl
  | cons _ _ => cases e⟩
theorem simGs_cons {t : TG} {u : TGs} {g : GT} {h : GTs} (ht : SimG K t g) (hu : SimGs K u h) : SimGs K (gCons t u) (gC g h) := ⟨fun {H0 S0 ad0 tmp ρ μ σ H Q xs ds ρ' μ'} hl R e k => by
  cases ds with
  | nil => cases e
  | cons d ds =>
    cases xs with
    | nil => simp at hl
    | cons x xs =>
      have e : ((g d ρ μ).bind fun p => h ds p.1 p.2) = some (ρ', μ') := e
      cases e1 : g d ρ μ with
      | none => rw [e1] at e; cases e
      | some p =>
        rw [e1] at e
        refine ⟨x, xs, rfl, ht.run (tmp := xs.zip ds ++ tmp) R (by rw [e1]) fun σ1 H1 R1 => ?_⟩
        exact hu.run (by simpa using hl) R1 e k⟩
@[simp] def gTp (n : Nat) (g : GTs) : GT := fun d ρ μ => match d with
  | .tup ds => if ds.length = n then g ds ρ μ else none
  | _ => none
theorem simG_tup {u : TGs} {g : GTs} {n : Nat} (hu : SimGs K u g) : SimG K (gTup K n u) (gTp n g) := ⟨fun {H0 S0 ad0 tmp ρ μ σ H Q v d ρ' μ'} R e h => by
  obtain ⟨S, ad, c, r⟩ := R.one
  cases d <;> first | cases e | skip
  rename_i ds
  have e : (if ds.length = n then g ds ρ μ else none) = some (ρ', μ') := e
  split at e
  · rename_i hn
    cases r with
    | tup hs r =>
      refine ⟨_, _, rfl, .inl (.inl (c.sh _ _ hs)), by rw [r.length]; exact hn, hu.run r.length ⟨S, ad, c.tmps fun p m => ?_⟩ e h⟩
      rcases List.mem_append.mp m with m | m
      · exact zip_rpL r p m
      · exact c.tm p m
  · cases e⟩

/-! ### statements -/
@[simp] def sNext : SF := fun ρ μ => .nx ρ μ
@[simp] def sSeq (a b : SF) : SF := fun ρ μ => match a ρ μ with
  | .nx ρ1 μ1 => b ρ1 μ1
  | .ret d μ1 => .ret d μ1
  | .bk ρ1 μ1 => .bk ρ1 μ1
  | .ct ρ1 μ1 => .ct ρ1 μ1
  | .exc x ρ1 μ1 => .exc x ρ1 μ1
  | .fail => .fail
theorem simS_next : SimS K W tNext sNext := ⟨fun r h => h _ _ r⟩
theorem simS_seq {t u : TS} {a b : SF} (ht : SimS K W t a) (hu : SimS K W u b) : SimS K W (tSeq t u) (sSeq a b) := ⟨fun {H0 S0 ad0 tmp ρ μ σ H E} R h => by
  refine ht.run (E := { E with nx := u E }) R ?_
  unfold sSeq at h
  cases e1 : a ρ μ with
  | nx ρ1 μ1 => rw [e1] at h; exact fun σ1 H1 R1 => hu.run R1 h
  | ret d μ1 => rw [e1] at h; exact h
  | bk ρ1 μ1 => rw [e1] at h; exact h
  | ct ρ1 μ1 => rw [e1] at h; exact h
  | exc x ρ1 μ1 => rw [e1] at h; exact h
  | fail => rw [e1] at h; exact h⟩
@[simp] def sBreak : SF := fun ρ μ => .bk ρ μ
@[simp] def sCont : SF := fun ρ μ => .ct ρ μ
theorem simS_break : SimS K W tBreak sBreak := ⟨fun r h => h _ _ r⟩
theorem simS_cont : SimS K W tCont sCont := ⟨fun r h => h _ _ r⟩
@[simp] def sDrop (f : EF) : SF := fun ρ μ => match f ρ μ with
  | .val _ μ1 => .nx ρ μ1
  | .exc x μ1 => .exc x ρ μ1
  | .fail => .fail
theorem simS_drop {t : TE} {f : EF} (h : SimE K W t f) : SimS K W (tDrop t) (sDrop f) := ⟨fun {H0 S0 ad0 tmp ρ μ σ H E} R g => by
  refine h.run R ?_
  unfold sDrop at g
  cases e1 : f ρ μ with
  | fail => rw [e1] at g; exact g.elim
  | exc x μ1 => rw [e1] at g; exact fun cls dd H r => g cls dd σ H r
  | val d μ1 => rw [e1] at g; exact fun v H1 R1 => g _ _ R1.pop⟩
@[simp] def sRet (f : EF) : SF := fun ρ μ => match f ρ μ with
  | .val d μ1 => .ret d μ1
  | .exc x μ1 => .exc x ρ μ1
  | .fail => .fail
theorem simS_ret {t : TE} {f : EF} (h : SimE K W t f) : SimS K W (tRet t) (sRet f) := ⟨fun {H0 S0 ad0 tmp ρ μ σ H E} R g => by
  refine h.run R ?_
  unfold sRet at g
  cases e1 : f ρ μ with
  | fail => rw [e1] at g; exact g.elim
  | exc x μ1 => rw [e1] at g; exact fun cls dd H r => g cls dd σ H r
  | val d μ1 => rw [e1] at g; exact fun v H1 R1 => g _ _ _ _ R1⟩
@[simp] def sRetN : SF := fun _ μ => .ret .non μ
theorem simS_retN : SimS K W tRetN sRetN := ⟨fun r h => h _ _ _ _ (r.flat flat_non)⟩
@[simp] def sAsgG (f : EF) (g : GT) : SF := fun ρ μ => match f ρ μ with
  | .val d μ1 => (match g d ρ μ1 with
    | some p => .nx p.1 p.2
    | none => .fail)
  | .exc x μ1 => .exc x ρ μ1
  | .fail => .fail
abbrev sAsg (i : Nat) (f : EF) : SF := sAsgG f (gN i)
theorem simS_asg {t : TE} {u : TG} {f : EF} {g : GT} (h : SimE K W t f) (hu : SimG K u g) : SimS K W (tAsg t u) (sAsgG f g) := ⟨fun {H0 S0 ad0 tmp ρ μ σ H E} R k => by
  refine h.run R ?_
  unfold sAsgG at k
  cases e1 : f ρ μ with
  | fail => rw [e1] at k; exact k.elim
  | exc x μ1 => rw [e1] at k; exact fun cls dd H r => k cls dd σ H r
  | val d μ1 =>
    rw [e1] at k
    intro v H1 R1
    have k : PostS K W H0 S0 ad0 tmp E (match g d ρ μ1 with
      | some p => .nx p.1 p.2
      | none => .fail) := k
    cases e2 : g d ρ μ1 with
    | none => rw [e2] at k; exact k.elim
    | some p => rw [e2] at k; exact hu.run R1 e2 fun σ' H' R' => k _ _ R'⟩
@[simp] def sAug (i : Nat) (f : EF) (g : GF) : SF := fun ρ μ => match ρ[i]? with
  | some (some x) => (match f ρ μ with
    | .val y μ1 => (match g x y μ1 with
      | .val z μ2 => .nx (ρ.set i (some z)) μ2
      | .exc x μ2 => .exc x ρ μ2
      | .fail => .fail)
    | .exc x μ1 => .exc x ρ μ1
    | .fail => .fail)
  | _ => .fail
theorem simS_aug {i : Nat} {t : TE} {ti : TIp} {f : EF} {g : GF} (h : SimE K W t f) (hg : SimO K W ti g) : SimS K W (tAug i t ti) (sAug i f g) := ⟨fun {H0 S0 ad0 tmp ρ μ σ H E} R k => by
  obtain ⟨S, ad, c⟩ := R
  unfold sAug at k
  split at k
  · rename_i x hx
    obtain ⟨v, h1, h2⟩ := c.sl i x hx
    refine ⟨v, h1, h.run ⟨S, ad, c.push h2⟩ ?_⟩
    cases e1 : f ρ μ with
    | fail => rw [e1] at k; exact k.elim
    | exc x μ1 => rw [e1] at k; exact fun cls dd H r => k cls dd σ H r.pop
    | val y μ1 =>
      rw [e1] at k
      intro v2 H2 R2
      refine hg.run R2 ?_
      have k : PostS K W H0 S0 ad0 tmp E (match g x y μ1 with
        | .val z μ2 => .nx (ρ.set i (some z)) μ2
        | .exc x μ2 => .exc x ρ μ2
        | .fail => .fail) := k
      cases e2 : g x y μ1 with
      | fail => rw [e2] at k; exact k.elim
      | exc x μ1 => rw [e2] at k; exact fun cls dd H r => k cls dd σ H r
      | val z μ2 =>
        rw [e2] at k
        intro v3 H3 R3
        obtain ⟨S3, ad3, c3, r3⟩ := R3.one
        exact k _ _ ⟨S3, ad3, c3.setv r3 i⟩
  · exact k.elim⟩
@[simp] def sIf (t : TF) (a b : SF) : SF := fun ρ μ => match t ρ μ with
  | .val true μ1 => a ρ μ1
  | .val false μ1 => b ρ μ1
  | .exc x μ1 => .exc x ρ μ1
  | .fail => .fail
theorem simS_if {t : TT} {u v : TS} {f : TF} {a b : SF} (ht : SimT K W t f) (hu : SimS K W u a) (hv : SimS K W v b) : SimS K W (tIfS t u v) (sIf f a b) := ⟨fun {H0 S0 ad0 tmp ρ μ σ H E} R k => by
  refine ht.run R ?_
  unfold sIf at k
  cases e1 : f ρ μ with
  | fail => rw [e1] at k; exact k.elim
  | exc x μ1 => rw [e1] at k; exact fun cls dd H r => k cls dd σ H r
  | val c μ1 =>
    rw [e1] at k
    intro H1 R1
    cases c with
    | true => exact iteT (hu.run R1 k)
    | false => exact iteF (hv.run R1 k)⟩
/-! ### loops -/
def whileN (c : TF) (b : SF) : Nat → Ro → Mu → Out
  | 0, _, _ => .fail
  | n + 1, ρ, μ => match c ρ μ with
    | .val true μ1 => (match b ρ μ1 with
      | .nx ρ2 μ2 => whileN c b n ρ2 μ2
      | .ct ρ2 μ2 => whileN c b n ρ2 μ2
      | .bk ρ2 μ2 => .nx ρ2 μ2
      | .ret d μ2 => .ret d μ2
      | .exc x ρ2 μ2 => .exc x ρ2 μ2
      | .fail => .fail)
    | .val false μ1 => .nx ρ μ1
    | .exc x μ1 => .exc x ρ μ1
    | .fail => .fail
@[simp] def sWhile (N : Nat) (c : TF) (b : SF) : SF := whileN c b N
theorem simS_while {t : TT} {u : TS} {c : TF} {b : SF} (N : Nat) (ht : SimT K W t c) (hu : SimS K W u b) : SimS K W (tWhile t u) (sWhile N c b) := ⟨fun {H0 S0 ad0 tmp ρ μ σ H E} R k => by
  refine ⟨fun m σ H => ∃ ρ μ, Rel K H0 S0 ad0 tmp ρ μ σ H ∧ PostS K W H0 S0 ad0 tmp E (whileN c b m ρ μ), ⟨N, ρ, μ, R, k⟩, ?_⟩
  rintro m σ H ⟨ρ, μ, R, k⟩
  cases m with
  | zero => exact k.elim
  | succ m =>
    refine ht.run R ?_
    unfold whileN at k
    cases e1 : c ρ μ with
    | fail => rw [e1] at k; exact k.elim
    | exc x μ1 => rw [e1] at k; exact fun cls dd H r => k cls dd σ H r
    | val t μ1 =>
      rw [e1] at k
      intro H1 R1
      cases t with
      | false => exact iteF (k _ _ R1)
      | true =>
        refine iteT ⟨fun σ' H' => ∃ ρ μ, Rel K H0 S0 ad0 tmp ρ μ σ' H' ∧ PostS K W H0 S0 ad0 tmp E (whileN c b m ρ μ), fun σ' H' h => ⟨m, Nat.lt_succ_self m, h⟩, ?_⟩
        refine hu.run R1 ?_
        have k : PostS K W H0 S0 ad0 tmp E (match b ρ μ1 with
          | .nx ρ2 μ2 => whileN c b m ρ2 μ2
          | .ct ρ2 μ2 => whileN c b m ρ2 μ2
          | .bk ρ2 μ2 => .nx ρ2 μ2
          | .ret d μ2 => .ret d μ2
          | .exc x ρ2 μ2 => .exc x ρ2 μ2
          | .fail => .fail) := k
        cases e2 : b ρ μ1 with
        | nx ρ2 μ2 => rw [e2] at k; exact fun σ' H' R' => ⟨ρ2, μ2, R', k⟩
        | ct ρ2 μ2 => rw [e2] at k; exact fun σ' H' R' => ⟨ρ2, μ2, R', k⟩
        | bk ρ2 μ2 => rw [e2] at k; exact k
        | ret d μ2 => rw [e2] at k; exact k
        | exc x ρ2 μ2 => rw [e2] at k; exact k
        | fail => rw [e2] at k; exact k⟩
/-- what is walked -/
def JW (K : PySem.W.Frag) (J : It) (ds : List D) (tl : List (V × D)) : Prop :=
  ∀ {H0 S0 : Hp} {ad0 : Ad} {tmp : List (V × D)} {ρ : Ro} {μ : Mu} {σ : L2.St} {H : Hp}, Rel K H0 S0 ad0 (tl ++ tmp) ρ μ σ H → ∀ i : Nat,
    (∀ d, ds[i]? = some d → J.go i H ∧ ∀ x H', J.yld i H x H' → Rel K H0 S0 ad0 ((x, d) :: (tl ++ tmp)) ρ μ σ H') ∧ (ds.length ≤ i → J.stop i H)
def PostI (K : PySem.W.Frag) (W : WX) (H0 S0 : Hp) (ad0 : Ad) (tmp : List (V × D)) (ρ : Ro) (σ : L2.St) (R : It → Hp → Prop) : Res (List D) → Prop
  | .val ds μ => ∀ J tl H, Rel K H0 S0 ad0 (tl ++ tmp) ρ μ σ H → JW K J ds tl → R J H
  | .exc x μ => ∀ cls dd H, RelX K H0 S0 ad0 tmp ρ μ σ H x cls dd → W cls dd σ H
  | .fail => False
structure SimI (K : PySem.W.Frag) (W : WX) (wi : TI) (f : AF) : Prop where
  run : ∀ {H0 S0 : Hp} {ad0 : Ad} {tmp : List (V × D)} {ρ : Ro} {μ : Mu} {σ : L2.St} {H : Hp} {R : It → Hp → Prop}, Rel K H0 S0 ad0 tmp ρ μ σ H → PostI K W H0 S0 ad0 tmp ρ σ R (f ρ μ) → wi σ H R
def forL (g : GT) (b : SF) : List D → Ro → Mu → Out
  | [], ρ, μ => .nx ρ μ
  | d :: ds, ρ, μ => match g d ρ μ with
    | none => .fail
    | some p => match b p.1 p.2 with
      | .nx ρ2 μ2 => forL g b ds ρ2 μ2
      | .ct ρ2 μ2 => forL g b ds ρ2 μ2
      | .bk ρ2 μ2 => .nx ρ2 μ2
      | .ret d μ2 => .ret d μ2
      | .exc x ρ2 μ2 => .exc x ρ2 μ2
      | .fail => .fail
@[simp] def sFor (f : AF) (g : GT) (b : SF) : SF := fun ρ μ => match f ρ μ with
  | .val ds μ1 => forL g b ds ρ μ1
  | .exc x μ1 => .exc x ρ μ1
  | .fail => .fail
theorem PostS.tl {tl tmp : List (V × D)} {E : Ends} {o : Out} (h : PostS K W H0 S0 ad0 tmp E o) : PostS K W H0 S0 ad0 (tl ++ tmp) E o := by
  have hs : ∀ p ∈ tmp, p ∈ tl ++ tmp := fun p m => List.mem_append_right _ m
  cases o with
  | nx ρ μ => exact fun σ H R => h σ H (R.sub hs)
  | bk ρ μ => exact fun σ H R => h σ H (R.sub hs)
  | ct ρ μ => exact fun σ H R => h σ H (R.sub hs)
  | ret d μ => exact fun v ρ σ H R => h v ρ σ H (R.sub fun p m => by
      rcases List.mem_cons.mp m with m | m
      · rw [m]; exact List.mem_cons_self
      · exact List.mem_cons_of_mem _ (hs p m))
  | exc x ρ μ => exact fun cls dd σ H R => h cls dd σ H (R.sub hs)
  | fail => exact h
theorem simS_for {wi : TI} {t : TG} {u : TS} {f : AF} {g : GT} {b : SF} (hi : SimI K W wi f) (hg : SimG K t g) (hb : SimS K W u b) : SimS K W (tFor wi t u) (sFor f g b) := ⟨fun {H0 S0 ad0 tmp ρ μ σ H E} R k => by
  refine hi.run R ?_
  unfold sFor at k
  cases e1 : f ρ μ with
  | fail => rw [e1] at k; exact k.elim
  | exc x μ1 => rw [e1] at k; exact fun cls dd H r => k cls dd σ H r
  | val ds μ1 =>
    rw [e1] at k
    intro J tl H1 R1 jw
    have k : PostS K W H0 S0 ad0 tmp E (forL g b ds ρ μ1) := k
    refine ⟨fun i m σ H => m = ds.length - i ∧ i ≤ ds.length ∧ ∃ ρ μ, Rel K H0 S0 ad0 (tl ++ tmp) ρ μ σ H ∧ PostS K W H0 S0 ad0 tmp E (forL g b (ds.drop i) ρ μ), ⟨ds.length, by simp, Nat.zero_le _, ρ, μ1, R1, k⟩, ?_⟩
    rintro i m σ H ⟨rfl, hi, ρ, μ, R, k⟩
    obtain ⟨j1, j2⟩ := jw R i
    by_cases hlt : i < ds.length
    · obtain ⟨go, yl⟩ := j1 ds[i] (List.getElem?_eq_getElem hlt)
      refine .inr ⟨go, fun σ' H' => ∃ ρ μ, Rel K H0 S0 ad0 (tl ++ tmp) ρ μ σ' H' ∧ PostS K W H0 S0 ad0 tmp E (forL g b (ds.drop (i + 1)) ρ μ), fun σ' H' ⟨ρ', μ', R', k'⟩ => ⟨ds.length - (i + 1), by omega, rfl, hlt, ρ', μ', R', k'⟩, fun x H' y => ?_⟩
      have R2 := yl x H' y
      rw [List.drop_eq_getElem_cons hlt] at k
      unfold forL at k
      cases e2 : g ds[i] ρ μ with
      | none => rw [e2] at k; exact k.elim
      | some p =>
        rw [e2] at k
        refine hg.run R2 e2 fun σ2 H2 R2 => hb.run (E := { E with nx := fun σ' H' => ∃ ρ μ, Rel K H0 S0 ad0 (tl ++ tmp) ρ μ σ' H' ∧ PostS K W H0 S0 ad0 tmp E (forL g b (ds.drop (i + 1)) ρ μ), ct := fun σ' H' => ∃ ρ μ, Rel K H0 S0 ad0 (tl ++ tmp) ρ μ σ' H' ∧ PostS K W H0 S0 ad0 tmp E (forL g b (ds.drop (i + 1)) ρ μ), bk := E.nx }) R2 ?_
        have k : PostS K W H0 S0 ad0 tmp E (match b p.1 p.2 with
          | .nx ρ2 μ2 => forL g b (ds.drop (i + 1)) ρ2 μ2
          | .ct ρ2 μ2 => forL g b (ds.drop (i + 1)) ρ2 μ2
          | .bk ρ2 μ2 => .nx ρ2 μ2
          | .ret d μ2 => .ret d μ2
          | .exc x ρ2 μ2 => .exc x ρ2 μ2
          | .fail => .fail) := k
        cases e3 : b p.1 p.2 with
        | nx ρ2 μ2 => rw [e3] at k; exact fun σ' H' R' => ⟨ρ2, μ2, R', k⟩
        | ct ρ2 μ2 => rw [e3] at k; exact fun σ' H' R' => ⟨ρ2, μ2, R', k⟩
        | bk ρ2 μ2 => rw [e3] at k; exact PostS.tl (E := E) (o := .nx ρ2 μ2) k
        | ret d μ2 => rw [e3] at k; exact PostS.tl (E := E) (o := .ret d μ2) k
        | exc x ρ2 μ2 => rw [e3] at k; exact PostS.tl (E := E) (o := .exc x ρ2 μ2) k
        | fail => rw [e3] at k; exact k
    · have e : i = ds.length := by omega
      subst e
      rw [List.drop_length] at k
      exact .inl ⟨j2 (Nat.le_refl _), k σ H (R.sub fun p m => List.mem_append_right _ m)⟩⟩
end
end Dn

/-! Dn3: the rules, construct by construct; operations; calls of defs. -/
namespace Dn
open PySem PySem.Spec PyProof.Rows L2

section
variable {X : Cx} {W : WX} {a b c e o : Expr} {es rest : List Expr} {fa fb fc fe fo : EF} {ta tb tc : TF} {pos p apos : Pos} {x : Str}
theorem de_var (i : Nat) {x : Str} {pos : Pos} (hN : X.N[i]? = some x := by rfl) (hv : Vis X.env.scope x := by first | exact Or.inl rfl | exact Or.inr (Or.inl rfl) | exact Or.inr (Or.inr rfl)) (hd : (x == ("__debug__" : Str)) = false := by decide)
    (hcd : (x == ("__classdict__" : Str)) = false := by decide) : DE X W (.Name x pos) (eVar i) := ⟨_, pe_var hN hv hd hcd, simE_var i⟩
theorem de_int {i j} : DE X W (.Constant (.int i) j pos) (eC (.int i)) := ⟨_, pe_int, simE_c (flat_int i)⟩
theorem de_bl {i j} : DE X W (.Constant (.bool i) j pos) (eC (.bl i)) := ⟨_, pe_bl, simE_c (flat_bl i)⟩
theorem de_non {j} : DE X W (.Constant .none j pos) (eC .non) := ⟨_, pe_non, simE_c flat_non⟩
theorem de_str {s j} : DE X W (.Constant (.str s) j pos) (eC (.str s)) := ⟨_, pe_str, simE_c (flat_str s)⟩
theorem flat_raw (v : V) : Flat v (.raw v) := fun _ _ _ => .raw v
/-- a class, a function of the module as a value -/
theorem de_glob {u : Value} {v : V} (hg : Gl X x) (hm : X.mg x = some u) (r : RelV v u) (hd : (x == ("__debug__" : Str)) = false := by decide) : DE X W (.Name x pos) (eC (.raw v)) := ⟨_, pe_glob hg hm r hd, simE_c (flat_raw v)⟩
theorem de_globI {i : Int} {t : Tok} (hg : Gl X x) (hm : X.mg x = some (.int i t)) (hd : (x == ("__debug__" : Str)) = false := by decide) : DE X W (.Name x pos) (eC (.int i)) := ⟨_, pe_glob (v := .int i) hg hm ⟨t, rfl⟩ hd, simE_c (flat_int i)⟩
theorem de_globS {i : Str} {t : Tok} (hg : Gl X x) (hm : X.mg x = some (.str i t)) (hd : (x == ("__debug__" : Str)) = false := by decide) : DE X W (.Name x pos) (eC (.str i)) := ⟨_, pe_glob (v := .str i) hg hm ⟨t, rfl⟩ hd, simE_c (flat_str i)⟩
/-- a built-in class as a value -/
theorem de_ty {T : String} (hg : Gl X x) (hm : X.mg x = none) (hv : bootBuiltins x = some (.type T)) (hn : x ≠ "__name__" := by decide) (hd : (x == ("__debug__" : Str)) = false := by decide) : DE X W (.Name x pos) (eC (.raw (.ty T))) :=
  ⟨_, pe_bltn (v := .ty T) hg hm hv rfl hn hd, simE_c (flat_raw _)⟩

/-- an operator by its rule -/
def OpO (X : Cx) (W : WX) (op : Operator) (g : GF) : Prop := ∃ r, OpR X (binaryOp op) r ∧ SimO X.K W r g
def CmO (X : Cx) (W : WX) (op : CmpOp) (g : GF) : Prop := ∃ r, OpR X (compareOp op) r ∧ SimO X.K W r g
def UnO (X : Cx) (W : WX) (op : UnaryOp) (g : D → Mu → Res D) : Prop := ∃ r, UnR X (unaryOp op) r ∧ SimU X.K W r g
def CbO (X : Cx) (W : WX) (f : Value) (g : List D → Mu → Res D) : Prop := ∃ r, CallR X f r ∧ SimC X.K W r g
theorem de_op {op : Operator} {g : GF} (ho : OpO X W op g) (ha : DE X W a fa) (hb : DE X W b fb) : DE X W (.BinOp a op b pos) (eOp g fa fb) :=
  let ⟨_, h1, h2⟩ := ho; let ⟨_, p1, q1⟩ := ha; let ⟨_, p2, q2⟩ := hb; ⟨_, pe_op h1 p1 p2, simE_op q1 q2 h2⟩
theorem de_un {op : UnaryOp} {g : D → Mu → Res D} (ho : UnO X W op g) (ha : DE X W a fa) : DE X W (.UnaryOp op a pos) (eUn g fa) :=
  let ⟨_, h1, h2⟩ := ho; let ⟨_, p1, q1⟩ := ha; ⟨_, pe_un h1 p1, simE_un q1 h2⟩
theorem de_cmp {op : CmpOp} {g : GF} (ho : CmO X W op g) (ha : DE X W a fa) (hb : DE X W b fb) (hm : behindInMarks op b = false := by first | exact nomark _ | rfl) : DE X W (.Compare a [op] [b] pos) (eOp g fa fb) :=
  let ⟨_, h1, h2⟩ := ho; let ⟨_, p1, q1⟩ := ha; let ⟨_, p2, q2⟩ := hb; ⟨_, pe_cmpR h1 p1 p2 hm, simE_op q1 q2 h2⟩
theorem dt_cmp {op : CmpOp} {g : GF} (ho : CmO X W op g) (ha : DE X W a fa) (hb : DE X W b fb) (hm : behindInMarks op b = false := by first | exact nomark _ | rfl) : DT X W (.Compare a [op] [b] pos) (tfB (eOp g fa fb)) :=
  let ⟨_, h1, h2⟩ := ho; let ⟨_, p1, q1⟩ := ha; let ⟨_, p2, q2⟩ := hb; ⟨_, pt_cmpR h1 p1 p2 hm, simT_b (simE_op q1 q2 h2)⟩
/-- a op b op' c -/
@[simp] def eChain (g g' : GF) (a b c : EF) : EF := fun ρ μ => (a ρ μ).bind fun x μ1 => (b ρ μ1).bind fun y μ2 => (g x y μ2).bind fun z μ3 => match z with
  | .bl true => (c ρ μ3).bind fun w μ4 => g' y w μ4
  | .bl false => .val (.bl false) μ3
  | _ => .fail
theorem simE_chain {K : PySem.W.Frag} {r r' : R2} {g g' : GF} {t1 t2 t3 : TE} (h1 : SimO K W r g) (h2 : SimO K W r' g') (ha : SimE K W t1 fa) (hb : SimE K W t2 fb) (hc : SimE K W t3 fc) : SimE K W (tChain r r' t1 t2 t3) (eChain g g' fa fb fc) := ⟨fun {H0 S0 ad0 tmp ρ μ σ H Q} R h => by
  refine ha.run R ?_
  unfold eChain at h
  cases e1 : fa ρ μ with
  | fail => rw [e1] at h; exact h.elim
  | exc x μ1 => rw [e1] at h; exact h
  | val x μ1 =>
    rw [e1] at h
    intro v1 H1 R1
    refine hb.run R1 ?_
    simp only [bind_val] at h
    cases e2 : fb ρ μ1 with
    | fail => rw [e2] at h; exact h.elim
    | exc x μ1 => rw [e2] at h; exact fun cls dd H r => h cls dd H r.pop
    | val y μ2 =>
      rw [e2] at h
      intro v2 H2 R2
      simp only [bind_val] at h
      -- keep y for the second comparison
      have R2' : Rel K H0 S0 ad0 ((v2, y) :: (v1, x) :: (v2, y) :: tmp) ρ μ2 σ H2 := R2.sub fun q m => by
        rcases List.mem_cons.mp m with m | m
        · rw [m]; exact List.mem_cons_self
        · rcases List.mem_cons.mp m with m | m
          · rw [m]; exact List.mem_cons_of_mem _ List.mem_cons_self
          · rcases List.mem_cons.mp m with m | m
            · rw [m]; exact List.mem_cons_self
            · exact List.mem_cons_of_mem _ (List.mem_cons_of_mem _ m)
      refine h1.run R2' ?_
      cases e3 : g x y μ2 with
      | fail => rw [e3] at h; exact h.elim
      | exc x μ1 => rw [e3] at h; exact fun cls dd H r => h cls dd H r.pop
      | val z μ3 =>
        rw [e3] at h
        intro v3 H3 R3
        simp only [bind_val] at h
        obtain ⟨S, ad, c, rp⟩ := R3.one
        cases z <;> first | exact h.elim | skip
        rename_i k
        cases rp
        refine ⟨k, rfl, ?_⟩
        cases k with
        | false => exact iteF (h _ _ ⟨S, ad, c.pop.push (.bl false)⟩)
        | true =>
          refine iteT (hc.run ⟨S, ad, c⟩ ?_)
          have h : PostE K W H0 S0 ad0 tmp ρ σ Q ((fc ρ μ3).bind fun w μ4 => g' y w μ4) := h
          cases e4 : fc ρ μ3 with
          | fail => rw [e4] at h; exact h.elim
          | exc x μ1 => rw [e4] at h; exact fun cls dd H r => h cls dd H r.pop
          | val w μ4 =>
            rw [e4] at h
            exact fun v4 H4 R4 => h2.run R4 h⟩
theorem de_chain {op op' : CmpOp} {g g' : GF} (ho : CmO X W op g) (ho' : CmO X W op' g') (ha : DE X W a fa) (hb : DE X W b fb) (hc : DE X W c fc) (hm : lastMarks [op, op'] [b, c] = false := by with_unfolding_all rfl) :
    DE X W (.Compare a [op, op'] [b, c] pos) (eChain g g' fa fb fc) :=
  let ⟨_, h1, h2⟩ := ho; let ⟨_, k1, k2⟩ := ho'; let ⟨_, p1, q1⟩ := ha; let ⟨_, p2, q2⟩ := hb; let ⟨_, p3, q3⟩ := hc; ⟨_, pe_chain h1 k1 p1 p2 p3 hm, simE_chain h2 k2 q1 q2 q3⟩
theorem dt_chain {op op' : CmpOp} {g g' : GF} (ho : CmO X W op g) (ho' : CmO X W op' g') (ha : DE X W a fa) (hb : DE X W b fb) (hc : DE X W c fc) (hm : lastMarks [op, op'] [b, c] = false := by with_unfolding_all rfl) :
    DT X W (.Compare a [op, op'] [b, c] pos) (tfB (eChain g g' fa fb fc)) :=
  let ⟨_, h1, h2⟩ := ho; let ⟨_, k1, k2⟩ := ho'; let ⟨_, p1, q1⟩ := ha; let ⟨_, p2, q2⟩ := hb; let ⟨_, p3, q3⟩ := hc; ⟨_, pt_chain h1 k1 p1 p2 p3 hm, simT_b (simE_chain h2 k2 q1 q2 q3)⟩
/-- an expression whose value is a truth, as a test -/
theorem dt_val (h : DE X W e fe) (he : ∀ whole, isTrue e X.env whole = (do let v ← whole; standAt e.pos; holding [v] (truthy v)) := by intro _; rfl) : DT X W e (tfB fe) := let ⟨_, p1, q1⟩ := h; ⟨_, pt_val p1 he, simT_B q1⟩
theorem dw_and1 (h : DT X W a ta) : DW X W (.BoolOp .And [a] pos) ta := let ⟨_, p1, q1⟩ := h; ⟨_, pw_and1 p1, q1⟩
theorem dw_or1 (h : DT X W a ta) : DW X W (.BoolOp .Or [a] pos) ta := let ⟨_, p1, q1⟩ := h; ⟨_, pw_or1 p1, q1⟩
theorem dw_and (h : DT X W a ta) (h2 : DW X W (.BoolOp .And (b :: rest) pos) tb) : DW X W (.BoolOp .And (a :: b :: rest) pos) (tfAnd ta tb) := let ⟨_, p1, q1⟩ := h; let ⟨_, p2, q2⟩ := h2; ⟨_, pw_and p1 p2, simT_and q1 q2⟩
theorem dw_or (h : DT X W a ta) (h2 : DW X W (.BoolOp .Or (b :: rest) pos) tb) : DW X W (.BoolOp .Or (a :: b :: rest) pos) (tfOr ta tb) := let ⟨_, p1, q1⟩ := h; let ⟨_, p2, q2⟩ := h2; ⟨_, pw_or p1 p2, simT_or q1 q2⟩
theorem dt_w (h : DW X W e ta) : DT X W e ta := let ⟨_, p1, q1⟩ := h; ⟨_, p1.pt, q1⟩
theorem dt_not (h : DT X W a ta) : DT X W (.UnaryOp .Not a pos) (tfNot ta) := let ⟨_, p1, q1⟩ := h; ⟨_, pt_not p1, simT_not q1⟩
theorem de_one {op} (h : DE X W a fa) : DE X W (.BoolOp op [a] pos) fa := let ⟨_, p1, q1⟩ := h; ⟨_, pe_one p1, q1⟩
theorem de_and (h : DE X W a fa) (h2 : DE X W (.BoolOp .And (b :: rest) pos) fb) : DE X W (.BoolOp .And (a :: b :: rest) pos) (eT (tfAnd (tfB fa) (tfB fb))) := let ⟨_, p1, q1⟩ := h; let ⟨_, p2, q2⟩ := h2; ⟨_, pe_and p1 p2, simE_andV q1 q2⟩
theorem de_or (h : DE X W a fa) (h2 : DE X W (.BoolOp .Or (b :: rest) pos) fb) : DE X W (.BoolOp .Or (a :: b :: rest) pos) (eT (tfOr (tfB fa) (tfB fb))) := let ⟨_, p1, q1⟩ := h; let ⟨_, p2, q2⟩ := h2; ⟨_, pe_or p1 p2, simE_orV q1 q2⟩
theorem de_not (h : DE X W a fa) : DE X W (.UnaryOp .Not a pos) (eT (tfNot (tfB fa))) := let ⟨_, p1, q1⟩ := h; ⟨_, pe_not p1, simE_notV q1⟩
theorem de_if (ht : DT X W c tc) (ha : DE X W a fa) (hb : DE X W b fb) : DE X W (.IfExp c a b pos) (eIf tc fa fb) := let ⟨_, p0, q0⟩ := ht; let ⟨_, p1, q1⟩ := ha; let ⟨_, p2, q2⟩ := hb; ⟨_, pe_ifExp p0 p1 p2, simE_if q0 q1 q2⟩
theorem da_nil : DA X W [] aNil := ⟨_, pa_nil, simA_nil⟩
theorem da_cons {f : AF} (he : DE X W e fe) (hr : DA X W es f) (hs : starEach (e :: es) X.env = (false, eval e X.env) :: starEach es X.env := by rfl) : DA X W (e :: es) (aCons fe f) := let ⟨_, p1, q1⟩ := he; let ⟨_, p2, q2⟩ := hr; ⟨_, pa_cons p1 p2 hs, simA_cons q1 q2⟩
theorem de_tup {x1} {f : AF} (h : DA X W es f) : DE X W (.Tuple es x1 pos) (eTup f) := let ⟨_, p1, q1⟩ := h; ⟨_, pe_tup p1, simE_tup q1⟩
theorem de_lst {f : AF} (h : DA X W es f) : DE X W (.List es pos) (eLst f) := let ⟨_, p1, q1⟩ := h; ⟨_, pe_lst p1, simE_lst q1⟩
theorem de_new {f : AF} (h : DA X W es f) : DE X W (.List es pos) (eNew f) := let ⟨_, p1, q1⟩ := h; ⟨_, pe_lst p1, simE_new q1⟩
theorem de_cb {id : String} {g : List D → Mu → Res D} {f : AF} (hc : CbO X W (.builtin id) g) (hg : Gl X x) (hm : X.mg x = none) (hv : bootBuiltins x = some (.builtin id)) (ha : DA X W (e :: es) f) (hn : x ≠ "__name__" := by decide) (hdb : (x == ("__debug__" : Str)) = false := by decide)
    (he : starEach (e :: es) X.env = (false, eval e X.env) :: starEach es X.env := by rfl) (hpl : (backTo pos (starEach es X.env)).any (·.1) = false := by rfl) : DE X W (.Call (.Name x p) (e :: es) [] pos) (eCB g f) :=
  let ⟨_, h1, h2⟩ := hc; let ⟨_, p1, q1⟩ := ha; ⟨_, pe_callB h1 hg hm hv p1 hn hdb he hpl, simE_cb q1 h2⟩
theorem de_ct {T : String} {g : List D → Mu → Res D} {f : AF} (hc : CbO X W (.type T) g) (hg : Gl X x) (hm : X.mg x = none) (hv : bootBuiltins x = some (.type T)) (ha : DA X W (e :: es) f) (hn : x ≠ "__name__" := by decide) (hdb : (x == ("__debug__" : Str)) = false := by decide)
    (he : starEach (e :: es) X.env = (false, eval e X.env) :: starEach es X.env := by rfl) (hpl : (backTo pos (starEach es X.env)).any (·.1) = false := by rfl) : DE X W (.Call (.Name x p) (e :: es) [] pos) (eCB g f) :=
  let ⟨_, h1, h2⟩ := hc; let ⟨_, p1, q1⟩ := ha; ⟨_, pe_callTy h1 hg hm hv p1 hn hdb he hpl, simE_cb q1 h2⟩
end

/-! ### operations on ints -/
def gI (g : Int → Int → D) : GF := fun d e μ => match d, e with
  | .int i, .int j => .val (g i j) μ
  | _, _ => .fail
def orG (g h : GF) : GF := fun d e μ => match g d e μ with
  | .val z μ => .val z μ
  | .exc x μ => .exc x μ
  | .fail => h d e μ
section
variable {K : PySem.W.Frag} {W : WX}
theorem SimO.or {r r' : R2} {g h : GF} (h1 : SimO K W r g) (h2 : SimO K W r' h) : SimO K W (fun x y H Q => r x y H Q ∨ r' x y H Q) (orG g h) := ⟨fun {H0 S0 ad0 tmp ρ μ σ H Q x y d e} R k => by
  unfold orG at k
  cases e1 : g d e μ with
  | fail => rw [e1] at k; exact .inr (h2.run R k)
  | exc x μ1 => rw [e1] at k; exact .inl (h1.run R (by rw [e1]; exact k))
  | val z μ1 => rw [e1] at k; exact .inl (h1.run R (by rw [e1]; exact k))⟩
theorem simO_I0 {g : Int → Int → V} {g' : Int → Int → D} (h : ∀ i j, Flat (g i j) (g' i j)) : SimO K W (rI0 g) (gI g') := ⟨fun {H0 S0 ad0 tmp ρ μ σ H Q x y d e} R k => by
  obtain ⟨S, ad, c, r1, r2⟩ := R.two
  unfold gI at k
  split at k
  · rename_i i j
    cases r1; cases r2
    exact ⟨i, j, rfl, rfl, k _ _ (c.flat (h i j))⟩
  · exact k.elim⟩
def gIc (C : Int → Int → Prop) [∀ i j, Decidable (C i j)] (g : Int → Int → D) : GF := fun d e μ => match d, e with
  | .int i, .int j => if C i j then .val (g i j) μ else .fail
  | _, _ => .fail
theorem simO_I {C C' : Int → Int → Prop} [∀ i j, Decidable (C' i j)] {g : Int → Int → V} {g' : Int → Int → D} (hC : ∀ i j, C' i j → C i j) (h : ∀ i j, Flat (g i j) (g' i j)) : SimO K W (rI C g) (gIc C' g') := ⟨fun {H0 S0 ad0 tmp ρ μ σ H Q x y d e} R k => by
  obtain ⟨S, ad, c, r1, r2⟩ := R.two
  unfold gIc at k
  split at k
  · rename_i i j
    cases r1; cases r2
    split at k
    · rename_i hc
      exact ⟨i, j, rfl, rfl, hC i j hc, k _ _ (c.flat (h i j))⟩
    · exact k.elim
  · exact k.elim⟩
end
/-! ### sequences -/
/-- the items of a list (frozen or a cell) -/
@[simp] def lsOf (d : D) (μ : Mu) : Option (List D) := match d with
  | .lst xs => some xs
  | .ref n => (match μ[n]? with
    | some (.lst xs) => some xs
    | _ => none)
  | _ => none
/-- the items of a list, a tuple, the script -/
@[simp] def sqOf (d : D) (μ : Mu) : Option (List D) := match d with
  | .lst xs => some xs
  | .tup xs => some xs
  | .scr ns => some (mapD D.int ns)
  | .ref n => (match μ[n]? with
    | some (.lst xs) => some xs
    | _ => none)
  | _ => none
section
variable {K : PySem.W.Frag} {W : WX} {H0 S0 : Hp} {ad0 : Ad} {S : Hp} {ad : Ad} {tmp : List (V × D)} {ρ : Ro} {μ : Mu} {σ : L2.St} {H : Hp} {x v : V} {d : D} {ds : List D}
theorem lsOf_at (c : Core K H0 S0 ad0 S ad tmp ρ μ σ H) (r : Rp K S ad v d) (h : lsOf d μ = some ds) : ∃ a xs, v = .ref a ∧ H a = some (.lst xs) ∧ RpL K S ad xs ds := by
  cases r <;> simp only [lsOf] at h <;> first | cases h | skip
  · rename_i a xs hs r
    exact ⟨a, xs, rfl, c.sh _ _ hs, r⟩
  · rename_i a n ha
    split at h
    · rename_i xs hm
      cases h
      obtain ⟨ys, h1, h2⟩ := c.at_ n a _ ha hm
      exact ⟨a, ys, rfl, h1, h2⟩
    · cases h
/-- a list or a tuple that stands in H -/
def SqH (K : PySem.W.Frag) (H : Hp) (a : Addr) (xs : List V) : Prop := SqL K H a xs ∨ SqT K H a xs
theorem sqOf_at (c : Core K H0 S0 ad0 S ad tmp ρ μ σ H) (r : Rp K S ad v d) (h : sqOf d μ = some ds) : ∃ a xs, v = .ref a ∧ (SqL K H a xs ∨ SqT K H a xs) ∧ RpL K S ad xs ds := by
  cases r <;> simp only [sqOf] at h <;> first | cases h | skip
  · rename_i a xs hs r
    exact ⟨a, xs, rfl, .inr (.of (c.sh _ _ hs)), r⟩
  · rename_i a xs hs r
    exact ⟨a, xs, rfl, .inl (.of (c.sh _ _ hs)), r⟩
  · rename_i a ns hs
    exact ⟨a, _, rfl, .inl (c.sh.seq hs), .of_ints ns⟩
  · rename_i a n ha
    split at h
    · rename_i xs hm
      cases h
      obtain ⟨ys, h1, h2⟩ := c.at_ n a _ ha hm
      exact ⟨a, ys, rfl, .inl (.of h1), h2⟩
    · cases h
end
/-- .. + .. -/
def gCat : GF := fun d e μ => match lsOf d μ, lsOf e μ with
  | some xs, some ys => if xs.length + ys.length ≤ 100000 then .val (.lst (xs ++ ys)) μ else .fail
  | _, _ => .fail
def gCatT : GF := fun d e μ => match d, e with
  | .tup (x :: xs), .tup (y :: ys) => if xs.length + ys.length + 2 ≤ 100000 then .val (.tup ((x :: xs) ++ (y :: ys))) μ else .fail
  | _, _ => .fail
def gCatS : GF := fun d e μ => match d, e with
  | .str i, .str j => if i.length + j.length ≤ 100000 then .val (.str (i ++ j)) μ else .fail
  | _, _ => .fail
section
variable {K : PySem.W.Frag} {W : WX}
theorem simO_cat : SimO K W rCat gCat := ⟨fun {H0 S0 ad0 tmp ρ μ σ H Q x y d e} R k => by
  obtain ⟨S, ad, c, r1, r2⟩ := R.two
  unfold gCat at k
  split at k
  · rename_i xs ys h1 h2
    split at k
    · rename_i hz
      obtain ⟨a, vs, rfl, e1, q1⟩ := lsOf_at c r1 h1
      obtain ⟨b, ws, rfl, e2, q2⟩ := lsOf_at c r2 h2
      exact ⟨a, b, vs, ws, rfl, rfl, e1, e2, sz_of (by rw [q1.length, q2.length]; exact hz), fun p hp => k _ _ (newLst c (q1.append q2) hp)⟩
    · exact k.elim
  · exact k.elim⟩
theorem simO_catS : SimO K W (fun x y H Q => ∃ i j, x = .str i ∧ y = .str j ∧ i.length + j.length ≤ sizeLine ∧ Q (.str (i ++ j)) H) gCatS := ⟨fun {H0 S0 ad0 tmp ρ μ σ H Q x y d e} R k => by
  obtain ⟨S, ad, c, r1, r2⟩ := R.two
  unfold gCatS at k
  split at k
  · rename_i i j
    cases r1; cases r2
    split at k
    · rename_i hz
      exact ⟨i, j, rfl, rfl, sz_of hz, k _ _ (c.flat (flat_str _))⟩
    · exact k.elim
  · exact k.elim⟩
theorem simO_catT : SimO K W (rCatT K) gCatT := ⟨fun {H0 S0 ad0 tmp ρ μ σ H Q x y d e} R k => by
  obtain ⟨S, ad, c, r1, r2⟩ := R.two
  unfold gCatT at k
  split at k
  · rename_i d0 ds e0 es
    cases r1 with
    | tup h1 q1 =>
      cases r2 with
      | tup h2 q2 =>
        rename_i a vs b ws
        split at k
        · rename_i hz
          have l1 := q1.length
          have l2 := q2.length
          refine ⟨a, b, vs, ws, rfl, rfl, .inl (.inl (c.sh _ _ h1)), .inl (.inl (c.sh _ _ h2)), ?_, sz_of (by rw [l1, l2, List.length_cons, List.length_cons]; omega), ?_⟩
          · intro z
            rw [z] at l1
            simp at l1
          · refine ⟨fun z => ?_, fun z => fun p hp => k _ _ (newTup c (q1.append q2) hp)⟩
            rw [z] at l2
            simp at l2
        · exact k.elim
  · exact k.elim⟩
end
def gAdd : GF := orG (gI fun i j => .int (i + j)) (orG gCatS (orG gCat gCatT))
def gMinus : GF := gI fun i j => .int (i - j)
/-- products are far below the model's line -/
def MulOk (i j : Int) : Prop := i.natAbs.log2 + j.natAbs.log2 < 10000000
instance (i j : Int) : Decidable (MulOk i j) := by unfold MulOk; infer_instance
def DivOk (_ j : Int) : Prop := 0 < j ∧ j.natAbs.log2 < 9000
instance (i j : Int) : Decidable (DivOk i j) := by unfold DivOk; infer_instance
def gMulI : GF := gIc MulOk fun i j => .int (i * j)
def gDiv : GF := gIc DivOk fun i j => .int (i / j)
def gMod : GF := gIc (fun _ j => 0 < j) fun i j => .int (i % j)
def gPow : GF := gIc (fun i j => 0 ≤ j ∧ j ≤ 1000000 ∧ i.natAbs < 2 ^ 64) fun i j => .int (i ^ j.toNat)
def gLt : GF := gI fun i j => .bl (decide (i < j))
def gLe : GF := gI fun i j => .bl (decide (i ≤ j))
def gGt : GF := gI fun i j => .bl (decide (j < i))
def gGe : GF := gI fun i j => .bl (decide (j ≤ i))
theorem mulOk_ok {i j : Int} (h : MulOk i j) : IntMulOk i j := by
  have h : i.natAbs.log2 + j.natAbs.log2 < 10000000 := h
  have e : (2 : Nat) ^ 27 = 134217728 := by decide
  have h1 : Builtin.Int.intBits i ≤ i.natAbs.log2 + 1 := by
    unfold Builtin.Int.intBits
    split
    · omega
    · exact Nat.le_refl _
  have h2 : Builtin.Int.intBits j ≤ j.natAbs.log2 + 1 := by
    unfold Builtin.Int.intBits
    split
    · omega
    · exact Nat.le_refl _
  have h3 : Builtin.Int.intTooBig (Builtin.Int.intBits i + Builtin.Int.intBits j) = false := by
    unfold Builtin.Int.intTooBig bitsLine
    exact decide_eq_false (by omega)
  unfold IntMulOk
  rw [h3]
  simp
section
variable {X : Cx} {W : WX}
theorem op_mulX : OpR X (binaryOp .Mult) (rI IntMulOk fun i j => .int (i * j)) := opI fun _ _ _ _ _ _ _ hc q => mul_int q hc
theorem oo_add : OpO X W .Add gAdd := ⟨_, op_add.or (op_add_str.or (op_cat.or op_catT)), (simO_I0 fun i j => flat_int _).or (simO_catS.or (simO_cat.or simO_catT))⟩
theorem oo_sub : OpO X W .Sub gMinus := ⟨_, op_sub, simO_I0 fun i j => flat_int _⟩
theorem oo_mulI : OpO X W .Mult gMulI := ⟨_, op_mulX, simO_I (fun _ _ h => mulOk_ok h) fun i j => flat_int _⟩
theorem oo_div : OpO X W .FloorDiv gDiv := ⟨_, op_fdivW, simO_I (fun _ _ h => h) fun i j => flat_int _⟩
theorem oo_mod : OpO X W .Mod gMod := ⟨_, op_mod, simO_I (fun _ _ h => h) fun i j => flat_int _⟩
theorem oo_pow : OpO X W .Pow gPow := ⟨_, op_pow, simO_I (fun _ _ h => h) fun i j => flat_int _⟩
theorem oc_lt : CmO X W .Lt gLt := ⟨_, op_lt, simO_I0 fun i j => flat_bl _⟩
theorem oc_le : CmO X W .LtE gLe := ⟨_, op_le, simO_I0 fun i j => flat_bl _⟩
theorem oc_gt : CmO X W .Gt gGt := ⟨_, op_gt, simO_I0 fun i j => flat_bl _⟩
theorem oc_ge : CmO X W .GtE gGe := ⟨_, op_ge, simO_I0 fun i j => flat_bl _⟩
def gNeg : D → Mu → Res D := fun d μ => match d with
  | .int i => .val (.int (-i)) μ
  | _ => .fail
theorem ou_neg : UnO X W .USub gNeg := ⟨_, un_neg, ⟨fun {H0 S0 ad0 tmp ρ μ σ H Q x d} R k => by
  obtain ⟨S, ad, c, r⟩ := R.one
  unfold gNeg at k
  split at k
  · cases r
    exact ⟨_, rfl, k _ _ (c.flat (flat_int _))⟩
  · exact k.elim⟩⟩
end
/-! ### == of data -/
mutual
@[simp] def toPy : D → Option PyData
  | .non => some .none
  | .bl b => some (.bool b)
  | .int i => some (.int i)
  | .str x => some (.str x)
  | .tup xs => (toPyL xs).map .tuple
  | .lst xs => (toPyL xs).map .list
  | _ => none
@[simp] def toPyL : List D → Option (List PyData)
  | [] => some []
  | x :: xs => (toPy x).bind fun p => (toPyL xs).map (p :: ·)
end
section
variable {K : PySem.W.Frag} {S H : Hp} {ad : Ad}
mutual
theorem toPy_dp (e : Same S H) : ∀ {d : D} {v : V} {p : PyData}, Rp K S ad v d → toPy d = some p → Dp K H v p
  | .non, _, _, r, h => by cases r; simp only [toPy] at h; cases h; exact .non
  | .bl b, _, _, r, h => by cases r; simp only [toPy] at h; cases h; exact .bl b
  | .int i, _, _, r, h => by cases r; simp only [toPy] at h; cases h; exact .int i
  | .str s, _, _, r, h => by cases r; simp only [toPy] at h; cases h; exact .str s
  | .tup xs, _, _, r, h => by
    cases r with
    | tup hs hr =>
      simp only [toPy, Option.map_eq_some_iff] at h
      obtain ⟨ps, h1, rfl⟩ := h
      exact .tup (.of (e _ _ hs)) (toPyL_dp e hr h1)
  | .lst xs, _, _, r, h => by
    cases r with
    | lst hs hr =>
      simp only [toPy, Option.map_eq_some_iff] at h
      obtain ⟨ps, h1, rfl⟩ := h
      exact .lst (.of (e _ _ hs)) (toPyL_dp e hr h1)
  | .scr _, _, _, _, h => by simp [toPy] at h
  | .ref _, _, _, _, h => by simp [toPy] at h
  | .raw _, _, _, _, h => by simp [toPy] at h
  | .exn .., _, _, _, h => by simp [toPy] at h
theorem toPyL_dp (e : Same S H) : ∀ {ds : List D} {vs : List V} {ps : List PyData}, RpL K S ad vs ds → toPyL ds = some ps → DpAll K H vs ps
  | [], _, _, r, h => by cases r; simp only [toPyL] at h; cases h; exact .nil
  | d :: ds, _, _, r, h => by
    cases r with
    | cons r1 r2 =>
      simp only [toPyL, Option.bind_eq_some_iff, Option.map_eq_some_iff] at h
      obtain ⟨p, h1, ps, h2, rfl⟩ := h
      exact .cons (toPy_dp e r1 h1) (toPyL_dp e r2 h2)
end
end
/-- a cell's list read as data -/
@[simp] def unref (d : D) (μ : Mu) : D := match d with
  | .ref n => (match μ[n]? with
    | some (.lst xs) => .lst xs
    | _ => .ref n)
  | d => d
@[simp] def topPy (d : D) (μ : Mu) : Option PyData := toPy (unref d μ)
theorem topPy_dp {K : PySem.W.Frag} {H0 S0 : Hp} {ad0 : Ad} {S : Hp} {ad : Ad} {tmp : List (V × D)} {ρ : Ro} {μ : Mu} {σ : L2.St} {H : Hp} {v : V} {d : D} {p : PyData} (c : Core K H0 S0 ad0 S ad tmp ρ μ σ H) (r : Rp K S ad v d) (h : topPy d μ = some p) : Dp K H v p := by
  unfold topPy unref at h
  split at h
  · rename_i n
    split at h
    · rename_i xs hm
      cases r with
      | ref ha =>
        obtain ⟨ys, h1, h2⟩ := c.at_ n _ _ ha hm
        simp only [toPy, Option.map_eq_some_iff] at h
        obtain ⟨ps, h3, rfl⟩ := h
        exact .lst (.of h1) (toPyL_dp c.sh h2 h3)
    · simp [toPy] at h
  · exact toPy_dp c.sh r h
def gEqD : GF := fun d e μ => match topPy d μ, topPy e μ with
  | some p, some q => if SeqAt.shaped p = true ∧ SeqAt.shaped q = true then .val (.bl (PyData.eqv p q)) μ else .fail
  | _, _ => .fail
def gNeD : GF := fun d e μ => match topPy d μ, topPy e μ with
  | some p, some q => if SeqAt.shaped p = true ∧ SeqAt.shaped q = true then .val (.bl (!PyData.eqv p q)) μ else .fail
  | _, _ => .fail
def gEqS : GF := fun d e μ => match d, e with
  | .int i, .int j => .val (.bl (decide (i = j))) μ
  | .str i, .str j => .val (.bl (decide (i = j))) μ
  | .bl i, .bl j => .val (.bl (decide (i = j))) μ
  | _, _ => .fail
def gNeS : GF := fun d e μ => match d, e with
  | .int i, .int j => .val (.bl (!decide (i = j))) μ
  | .str i, .str j => .val (.bl (!decide (i = j))) μ
  | .bl i, .bl j => .val (.bl (!decide (i = j))) μ
  | _, _ => .fail
section
variable {K : PySem.W.Frag} {W : WX}
theorem simO_eqD : SimO K W (rEqD K) gEqD := ⟨fun {H0 S0 ad0 tmp ρ μ σ H Q x y d e} R k => by
  obtain ⟨S, ad, c, r1, r2⟩ := R.two
  unfold gEqD at k
  split at k
  · rename_i p q h1 h2
    split at k
    · rename_i hs
      exact ⟨p, q, topPy_dp c r1 h1, topPy_dp c r2 h2, hs.1, hs.2, k _ _ (c.flat (flat_bl _))⟩
    · exact k.elim
  · exact k.elim⟩
theorem simO_neD : SimO K W (rNeD K) gNeD := ⟨fun {H0 S0 ad0 tmp ρ μ σ H Q x y d e} R k => by
  obtain ⟨S, ad, c, r1, r2⟩ := R.two
  unfold gNeD at k
  split at k
  · rename_i p q h1 h2
    split at k
    · rename_i hs
      exact ⟨p, q, topPy_dp c r1 h1, topPy_dp c r2 h2, hs.1, hs.2, k _ _ (c.flat (flat_bl _))⟩
    · exact k.elim
  · exact k.elim⟩
theorem dec_V_int {i j : Int} : decide (V.int i = V.int j) = decide (i = j) := by by_cases h : i = j <;> simp [h]
theorem dec_V_str {i j : Str} : decide (V.str i = V.str j) = decide (i = j) := by by_cases h : i = j <;> simp [h]
theorem dec_V_bl {i j : Bool} : decide (V.bl i = V.bl j) = decide (i = j) := by by_cases h : i = j <;> simp [h]
theorem simO_eqS : SimO K W rEq gEqS := ⟨fun {H0 S0 ad0 tmp ρ μ σ H Q x y d e} R k => by
  obtain ⟨S, ad, c, r1, r2⟩ := R.two
  unfold gEqS at k
  split at k
  · cases r1; cases r2
    exact ⟨rfl, by rw [dec_V_int]; exact k _ _ (c.flat (flat_bl _))⟩
  · cases r1; cases r2
    exact ⟨rfl, by rw [dec_V_str]; exact k _ _ (c.flat (flat_bl _))⟩
  · cases r1; cases r2
    exact ⟨rfl, by rw [dec_V_bl]; exact k _ _ (c.flat (flat_bl _))⟩
  · exact k.elim⟩
theorem simO_neS : SimO K W rNe gNeS := ⟨fun {H0 S0 ad0 tmp ρ μ σ H Q x y d e} R k => by
  obtain ⟨S, ad, c, r1, r2⟩ := R.two
  unfold gNeS at k
  split at k
  · cases r1; cases r2
    exact ⟨rfl, by rw [dec_V_int]; exact k _ _ (c.flat (flat_bl _))⟩
  · cases r1; cases r2
    exact ⟨rfl, by rw [dec_V_str]; exact k _ _ (c.flat (flat_bl _))⟩
  · cases r1; cases r2
    exact ⟨rfl, by rw [dec_V_bl]; exact k _ _ (c.flat (flat_bl _))⟩
  · exact k.elim⟩
/-- is None, is not None -/
def isNon : D → Option Bool
  | .non => some true
  | .raw _ => none
  | _ => some false
def gIsN : GF := fun d e μ => match e, isNon d with
  | .non, some b => .val (.bl b) μ
  | _, _ => .fail
def gNotN : GF := fun d e μ => match e, isNon d with
  | .non, some b => .val (.bl (!b)) μ
  | _, _ => .fail
theorem isNon_at {S : Hp} {ad : Ad} {v : V} {d : D} {b : Bool} (r : Rp K S ad v d) (h : isNon d = some b) : decide (v = .non) = b := by
  cases r <;> simp only [isNon] at h <;> cases h <;> simp
theorem simO_isN : SimO K W (fun x y H Q => y = .non ∧ Q (.bl (decide (x = .non))) H) gIsN := ⟨fun {H0 S0 ad0 tmp ρ μ σ H Q x y d e} R k => by
  obtain ⟨S, ad, c, r1, r2⟩ := R.two
  unfold gIsN at k
  split at k
  · rename_i b hb
    cases r2
    exact ⟨rfl, by rw [isNon_at r1 hb]; exact k _ _ (c.flat (flat_bl _))⟩
  · exact k.elim⟩
theorem simO_notN : SimO K W (fun x y H Q => y = .non ∧ Q (.bl (!decide (x = .non))) H) gNotN := ⟨fun {H0 S0 ad0 tmp ρ μ σ H Q x y d e} R k => by
  obtain ⟨S, ad, c, r1, r2⟩ := R.two
  unfold gNotN at k
  split at k
  · rename_i b hb
    cases r2
    exact ⟨rfl, by rw [isNon_at r1 hb]; exact k _ _ (c.flat (flat_bl _))⟩
  · exact k.elim⟩
end
def gEq : GF := orG gEqS gEqD
def gNe : GF := orG gNeS gNeD
section
variable {X : Cx} {W : WX}
theorem oc_eq (hu : X.A.units + 64 < cLine) : CmO X W .Eq gEq := ⟨_, op_eq.or (op_eqD hu), simO_eqS.or simO_eqD⟩
theorem oc_ne (hu : X.A.units + 64 < cLine) : CmO X W .NotEq gNe := ⟨_, op_ne.or (op_neD hu), simO_neS.or simO_neD⟩
theorem oc_is : CmO X W .Is gIsN := ⟨_, op_isN, simO_isN⟩
theorem oc_isnot : CmO X W .IsNot gNotN := ⟨_, op_notN, simO_notN⟩
end
/-! ### items, slices, len, list, tuple -/
def gIx : GF := fun d e μ => match e with
  | .int i => (match d with
    | .str z => if z.length ≤ 100000 then (match atI z.cps.toList i with
      | some c => .val (.str ⟨#[c]⟩) μ
      | none => .fail) else .fail
    | d => (match sqOf d μ with
      | some xs => (match atI xs i with
        | some x => .val x μ
        | none => .fail)
      | none => .fail))
  | _ => .fail
section
variable {K : PySem.W.Frag} {W : WX}
theorem atI_rp {S : Hp} {ad : Ad} {vs : List V} {ds : List D} (r : RpL K S ad vs ds) {i : Int} {d : D} (h : atI ds i = some d) : ∃ v, atI vs i = some v ∧ Rp K S ad v d := by
  unfold atI at h ⊢
  rw [r.length]
  cases e : ixN ds.length i with
  | none => rw [e] at h; cases h
  | some j =>
    rw [e] at h
    exact r.get (i := j) h
theorem simO_ix : SimO K W (fun x y H Q => rIxL K x y H Q ∨ rIxT K x y H Q ∨ rIxS x y H Q) gIx := ⟨fun {H0 S0 ad0 tmp ρ μ σ H Q x y d e} R k => by
  obtain ⟨S, ad, c, r1, r2⟩ := R.two
  unfold gIx at k
  split at k
  · rename_i i
    cases r2
    split at k
    · rename_i z
      cases r1
      split at k
      · rename_i hz
        split at k
        · rename_i ch hch
          exact .inr (.inr ⟨z, i, ch, rfl, rfl, sz_of hz, hch, k _ _ (c.flat (flat_str _))⟩)
        · exact k.elim
      · exact k.elim
    · split at k
      · rename_i xs hs
        split at k
        · rename_i d1 hd
          obtain ⟨a, vs, rfl, q, rv⟩ := sqOf_at c r1 hs
          obtain ⟨v, h1, h2⟩ := atI_rp rv hd
          rcases q with q | q
          · exact .inl ⟨a, vs, i, v, rfl, rfl, q, h1, k _ _ ⟨S, ad, c.push h2⟩⟩
          · exact .inr (.inl ⟨a, vs, i, v, rfl, rfl, q, h1, k _ _ ⟨S, ad, c.push h2⟩⟩)
        · exact k.elim
      · exact k.elim
  · exact k.elim⟩
end
section
variable {X : Cx} {W : WX} {a b e : Expr} {fa fb fe : EF} {pos p2 : Pos}
theorem de_ix (ha : DE X W a fa) (hb : DE X W b fb) (hs : PlainIx b := by exact fun _ _ => rfl) : DE X W (.Subscript a b pos) (eOp gIx fa fb) :=
  let ⟨_, p1, q1⟩ := ha; let ⟨_, p2, q2⟩ := hb; ⟨_, pe_ix ix_seq p1 p2 hs, simE_op q1 q2 simO_ix⟩
/-- slices -/
abbrev OF := Ro → Mu → Res (Option Int)
@[simp] def oNone : OF := fun _ μ => .val none μ
@[simp] def oSome (f : EF) : OF := fun ρ μ => (f ρ μ).bind fun d μ1 => match d with
  | .int i => .val (some i) μ1
  | _ => .fail
def PostO (K : PySem.W.Frag) (W : WX) (H0 S0 : Hp) (ad0 : Ad) (tmp : List (V × D)) (ρ : Ro) (σ : L2.St) (Q : Option Int → Hp → Prop) : Res (Option Int) → Prop
  | .val o μ => ∀ H, Rel K H0 S0 ad0 tmp ρ μ σ H → Q o H
  | .exc x μ => ∀ cls dd H, RelX K H0 S0 ad0 tmp ρ μ σ H x cls dd → W cls dd σ H
  | .fail => False
structure SimP (K : PySem.W.Frag) (W : WX) (t : TO) (f : OF) : Prop where
  run : ∀ {H0 S0 : Hp} {ad0 : Ad} {tmp : List (V × D)} {ρ : Ro} {μ : Mu} {σ : L2.St} {H : Hp} {Q : Option Int → Hp → Prop}, Rel K H0 S0 ad0 tmp ρ μ σ H → PostO K W H0 S0 ad0 tmp ρ σ Q (f ρ μ) → t σ H Q
def DO (X : Cx) (W : WX) (e : Option Expr) (f : OF) : Prop := ∃ t, PO X e t ∧ SimP X.K W t f
theorem do_none : DO X W none oNone := ⟨_, po_none, ⟨fun R h => h _ R⟩⟩
theorem do_some (h : DE X W e fe) : DO X W (some e) (oSome fe) := let ⟨_, p1, q1⟩ := h; ⟨_, po_some p1, ⟨fun {H0 S0 ad0 tmp ρ μ σ H Q} R k => by
  refine q1.run R ?_
  unfold oSome at k
  cases e1 : fe ρ μ with
  | fail => rw [e1] at k; exact k.elim
  | exc x μ1 => rw [e1] at k; exact k
  | val d μ1 =>
    rw [e1] at k
    intro v H1 R1
    cases d <;> first | exact k.elim | skip
    obtain ⟨S, ad, c, r⟩ := R1.one
    cases r
    exact ⟨_, rfl, k _ ⟨S, ad, c⟩⟩⟩⟩
def cutD (xs : List D) (lo hi : Option Int) : List D := (xs.drop (HT.sIx xs.length 0 lo)).take (HT.sIx xs.length xs.length hi - HT.sIx xs.length 0 lo)
def eSl (f : EF) (l h : OF) : EF := fun ρ μ => (f ρ μ).bind fun d μ1 => (l ρ μ1).bind fun lo μ2 => (h ρ μ2).bind fun hi μ3 => match d with
  | .tup xs => if (cutD xs lo hi).length = xs.length then .fail else .val (.tup (cutD xs lo hi)) μ3
  | d => (match lsOf d μ3 with
    | some xs => .val (.lst (cutD xs lo hi)) μ3
    | none => .fail)
theorem cut_rp {K : PySem.W.Frag} {S : Hp} {ad : Ad} {vs : List V} {ds : List D} (r : RpL K S ad vs ds) (lo hi : Option Int) : RpL K S ad (cutV vs lo hi) (cutD ds lo hi) := by
  unfold cutV cutD
  rw [r.length]
  exact (r.drop _).take _
end
end Dn

/-! Dn4: slices, built-ins, methods of lists, what loops walk, comprehensions, defs and their calls. -/
namespace Dn
open PySem PySem.Spec PyProof.Rows L2
noncomputable section
/-- a count of turns; what decides it is hidden, so that nothing unfolds it -/
structure Rng (n : Int) : Prop where
  lo : -(2 ^ 62) ≤ n
  hi : n < 2 ^ 62
noncomputable instance (n : Int) : Decidable (Rng n) := Classical.propDecidable _
theorem rng_nat {n : Nat} (h : n ≤ 1000000000) : Rng (n : Int) := ⟨by omega, by omega⟩
@[simp] theorem rng_0 : Rng 0 := ⟨by decide, by decide⟩
@[simp] theorem rng_1 : Rng 1 := ⟨by decide, by decide⟩
@[simp] theorem rng_2 : Rng 2 := ⟨by decide, by decide⟩
@[simp] theorem rng_3 : Rng 3 := ⟨by decide, by decide⟩
@[simp] theorem rng_4 : Rng 4 := ⟨by decide, by decide⟩
@[simp] theorem rng_5 : Rng 5 := ⟨by decide, by decide⟩
@[simp] theorem rng_6 : Rng 6 := ⟨by decide, by decide⟩
@[simp] theorem rng_7 : Rng 7 := ⟨by decide, by decide⟩
@[simp] theorem rng_8 : Rng 8 := ⟨by decide, by decide⟩
@[simp] theorem rng_9 : Rng 9 := ⟨by decide, by decide⟩
@[simp] theorem rng_10 : Rng 10 := ⟨by decide, by decide⟩
@[simp] theorem rng_11 : Rng 11 := ⟨by decide, by decide⟩
@[simp] theorem rng_12 : Rng 12 := ⟨by decide, by decide⟩
@[simp] theorem rng_13 : Rng 13 := ⟨by decide, by decide⟩
@[simp] theorem rng_14 : Rng 14 := ⟨by decide, by decide⟩
@[simp] theorem rng_15 : Rng 15 := ⟨by decide, by decide⟩
@[simp] theorem rng_16 : Rng 16 := ⟨by decide, by decide⟩
@[simp] theorem rng_17 : Rng 17 := ⟨by decide, by decide⟩
@[simp] theorem rng_18 : Rng 18 := ⟨by decide, by decide⟩
@[simp] theorem rng_19 : Rng 19 := ⟨by decide, by decide⟩
@[simp] theorem rng_20 : Rng 20 := ⟨by decide, by decide⟩
@[simp] theorem rng_21 : Rng 21 := ⟨by decide, by decide⟩
@[simp] theorem rng_22 : Rng 22 := ⟨by decide, by decide⟩
@[simp] theorem rng_23 : Rng 23 := ⟨by decide, by decide⟩
@[simp] theorem rng_24 : Rng 24 := ⟨by decide, by decide⟩
@[simp] theorem rng_25 : Rng 25 := ⟨by decide, by decide⟩
@[simp] theorem rng_26 : Rng 26 := ⟨by decide, by decide⟩
@[simp] theorem rng_27 : Rng 27 := ⟨by decide, by decide⟩
@[simp] theorem rng_28 : Rng 28 := ⟨by decide, by decide⟩
@[simp] theorem rng_29 : Rng 29 := ⟨by decide, by decide⟩
@[simp] theorem rng_30 : Rng 30 := ⟨by decide, by decide⟩
@[simp] theorem rng_31 : Rng 31 := ⟨by decide, by decide⟩
@[simp] theorem rng_32 : Rng 32 := ⟨by decide, by decide⟩
@[simp] theorem rng_33 : Rng 33 := ⟨by decide, by decide⟩
@[simp] theorem rng_34 : Rng 34 := ⟨by decide, by decide⟩
@[simp] theorem rng_35 : Rng 35 := ⟨by decide, by decide⟩
@[simp] theorem rng_36 : Rng 36 := ⟨by decide, by decide⟩
@[simp] theorem rng_37 : Rng 37 := ⟨by decide, by decide⟩
@[simp] theorem rng_38 : Rng 38 := ⟨by decide, by decide⟩
@[simp] theorem rng_39 : Rng 39 := ⟨by decide, by decide⟩
@[simp] theorem rng_40 : Rng 40 := ⟨by decide, by decide⟩
@[simp] theorem rng_41 : Rng 41 := ⟨by decide, by decide⟩
@[simp] theorem rng_42 : Rng 42 := ⟨by decide, by decide⟩
@[simp] theorem rng_43 : Rng 43 := ⟨by decide, by decide⟩
@[simp] theorem rng_44 : Rng 44 := ⟨by decide, by decide⟩
@[simp] theorem rng_45 : Rng 45 := ⟨by decide, by decide⟩
@[simp] theorem rng_46 : Rng 46 := ⟨by decide, by decide⟩
@[simp] theorem rng_47 : Rng 47 := ⟨by decide, by decide⟩
@[simp] theorem rng_48 : Rng 48 := ⟨by decide, by decide⟩
@[simp] theorem rng_49 : Rng 49 := ⟨by decide, by decide⟩
@[simp] theorem rng_50 : Rng 50 := ⟨by decide, by decide⟩
@[simp] theorem rng_51 : Rng 51 := ⟨by decide, by decide⟩
@[simp] theorem rng_52 : Rng 52 := ⟨by decide, by decide⟩
@[simp] theorem rng_53 : Rng 53 := ⟨by decide, by decide⟩
@[simp] theorem rng_54 : Rng 54 := ⟨by decide, by decide⟩
@[simp] theorem rng_55 : Rng 55 := ⟨by decide, by decide⟩
@[simp] theorem rng_56 : Rng 56 := ⟨by decide, by decide⟩
@[simp] theorem rng_57 : Rng 57 := ⟨by decide, by decide⟩
@[simp] theorem rng_58 : Rng 58 := ⟨by decide, by decide⟩
@[simp] theorem rng_59 : Rng 59 := ⟨by decide, by decide⟩
@[simp] theorem rng_60 : Rng 60 := ⟨by decide, by decide⟩
@[simp] theorem rng_61 : Rng 61 := ⟨by decide, by decide⟩
@[simp] theorem rng_62 : Rng 62 := ⟨by decide, by decide⟩
@[simp] theorem rng_63 : Rng 63 := ⟨by decide, by decide⟩
@[simp] theorem rng_64 : Rng 64 := ⟨by decide, by decide⟩

/-! ### slices -/
@[simp] def gSl : D → Option Int → Option Int → Mu → Res D := fun d lo hi μ => match d with
  | .str z => if z.length ≤ 100000 then .val (.str (cutS z lo hi)) μ else .fail
  | .tup xs => .val (.tup (cutD xs lo hi)) μ
  | d => (match lsOf d μ with
    | some xs => .val (.lst (cutD xs lo hi)) μ
    | none => .fail)
@[simp] def eSlice (f : EF) (l h : OF) : EF := fun ρ μ => (f ρ μ).bind fun d μ1 => (l ρ μ1).bind fun lo μ2 => (h ρ μ2).bind fun hi μ3 => gSl d lo hi μ3
theorem cutD_whole {xs : List D} {lo hi : Option Int} (h : HT.sIx xs.length 0 lo = 0 ∧ HT.sIx xs.length xs.length hi = xs.length) : cutD xs lo hi = xs := by
  unfold cutD
  rw [h.1, h.2, Nat.sub_zero, List.drop_zero, List.take_length]
section
variable {X : Cx} {W : WX} {a b e : Expr} {fa fb fe : EF} {pos p2 : Pos} {lo hi : Option Expr} {fl fh : OF}
theorem de_slice (ha : DE X W a fa) (hl : DO X W lo fl) (hh : DO X W hi fh) : DE X W (.Subscript a (.Slice lo hi none p2) pos) (eSlice fa fl fh) := by
  obtain ⟨ta, p1, q1⟩ := ha
  obtain ⟨tl, p2', q2⟩ := hl
  obtain ⟨th, p3, q3⟩ := hh
  refine ⟨_, pe_slice (sl_list.or (sl_tupA.or sl_str)) p1 p2' p3, ⟨fun {H0 S0 ad0 tmp ρ μ σ H Q} R k => ?_⟩⟩
  refine q1.run R ?_
  unfold eSlice at k
  cases e1 : fa ρ μ with
  | fail => rw [e1] at k; exact k.elim
  | exc x μ1 => rw [e1] at k; exact k
  | val d μ1 =>
    rw [e1] at k
    simp only [bind_val] at k
    intro v H1 R1
    refine q2.run R1 ?_
    cases e2 : fl ρ μ1 with
    | fail => rw [e2] at k; exact k.elim
    | exc x μ1 => rw [e2] at k; exact fun cls dd H r => k cls dd H r.pop
    | val o1 μ2 =>
      rw [e2] at k
      simp only [bind_val] at k
      intro H2 R2
      refine q3.run R2 ?_
      cases e3 : fh ρ μ2 with
      | fail => rw [e3] at k; exact k.elim
      | exc x μ1 => rw [e3] at k; exact fun cls dd H r => k cls dd H r.pop
      | val o2 μ3 =>
        rw [e3] at k
        simp only [bind_val] at k
        intro H3 R3
        obtain ⟨S, ad, c, r⟩ := R3.one
        unfold gSl at k
        split at k
        · rename_i z
          cases r
          split at k
          · rename_i hz
            exact .inr (.inr ⟨z, rfl, sz_of hz, k _ _ (c.flat (flat_str _))⟩)
          · exact k.elim
        · rename_i xs
          cases r with
          | tup hs hr =>
            rename_i p vs
            refine .inr (.inl ⟨p, vs, rfl, .of (c.sh _ _ hs), fun hw => ?_, fun _ q hq => k _ _ (newTup c (cut_rp hr o1 o2) hq)⟩)
            rw [hr.length] at hw
            rw [cutD_whole hw] at k
            exact k _ _ ⟨S, ad, c.push (.tup hs hr)⟩
        · split at k
          · rename_i xs hs
            obtain ⟨p, vs, rfl, h1, h2⟩ := lsOf_at c r hs
            exact .inl ⟨p, vs, rfl, .of h1, fun q hq => k _ _ (newLst c (cut_rp h2 o1 o2) hq)⟩
          · exact k.elim
/-- .. * n -/
def gRepT : GF := fun d e μ => match d, e with
  | .tup (x :: xs), .int k => if 2 ≤ k ∧ k ≤ 1000 ∧ xs.length ≤ 900 then .val (.tup (List.replicate k.toNat (x :: xs)).flatten) μ else .fail
  | _, _ => .fail
def gRepL : GF := fun d e μ => match lsOf d μ, e with
  | some xs, .int k => if Rng k ∧ xs.length * k.toNat ≤ 100000 then .val (.lst (List.replicate k.toNat xs).flatten) μ else .fail
  | _, _ => .fail
end
section
variable {K : PySem.W.Frag} {W : WX}
theorem rep_rp {S : Hp} {ad : Ad} {vs : List V} {ds : List D} (r : RpL K S ad vs ds) : ∀ k : Nat, RpL K S ad (List.replicate k vs).flatten (List.replicate k ds).flatten
  | 0 => .nil
  | k + 1 => by
    rw [List.replicate_succ, List.replicate_succ, List.flatten_cons, List.flatten_cons]
    exact r.append (rep_rp r k)
theorem simO_repL : SimO K W rRep gRepL := ⟨fun {H0 S0 ad0 tmp ρ μ σ H Q x y d e} R k => by
  obtain ⟨S, ad, c, r1, r2⟩ := R.two
  unfold gRepL at k
  split at k
  · rename_i xs n h1
    split at k
    · rename_i hz
      cases r2
      obtain ⟨a, vs, rfl, e1, q1⟩ := lsOf_at c r1 h1
      exact ⟨a, n, vs, rfl, rfl, e1, by have := hz.1.lo; omega, by have := hz.1.hi; omega, sz_of (by rw [q1.length]; exact hz.2), fun p hp => k _ _ (newLst c (rep_rp q1 n.toNat) hp)⟩
    · exact k.elim
  · exact k.elim⟩
theorem simO_repT : SimO K W (rRepT K) gRepT := ⟨fun {H0 S0 ad0 tmp ρ μ σ H Q x y d e} R k => by
  obtain ⟨S, ad, c, r1, r2⟩ := R.two
  unfold gRepT at k
  split at k
  · rename_i d0 ds n
    cases r1 with
    | tup h1 q1 =>
      cases r2
      split at k
      · rename_i hz
        rename_i a vs
        have l1 := q1.length
        rw [List.length_cons] at l1
        exact ⟨a, n, vs, rfl, rfl, .of (c.sh _ _ h1), fun z => by rw [z] at l1; simp at l1, hz.1, hz.2.1, by omega, fun p hp => k _ _ (newTup c (rep_rp q1 n.toNat) hp)⟩
      · exact k.elim
  · exact k.elim⟩
end
def gMul : GF := orG gMulI (orG gRepL gRepT)
section
variable {X : Cx} {W : WX}
theorem oo_mul : OpO X W .Mult gMul := ⟨_, op_mulX.or (op_rep.or op_repT), (simO_I (fun _ _ h => mulOk_ok h) fun i j => flat_int _).or (simO_repL.or simO_repT)⟩
end

/-! ### built-ins -/
@[simp] def gLen : List D → Mu → Res D := fun ds μ => match ds with
  | [.str z] => if z.length ≤ 100000 then .val (.int z.length) μ else .fail
  | [d] => (match sqOf d μ with
    | some xs => .val (.int xs.length) μ
    | none => .fail)
  | _ => .fail
/-- list(..) as a value; as a cell -/
@[simp] def gList : List D → Mu → Res D := fun ds μ => match ds with
  | [d] => (match sqOf d μ with
    | some xs => .val (.lst xs) μ
    | none => .fail)
  | _ => .fail
@[simp] def gListN : List D → Mu → Res D := fun ds μ => match ds with
  | [d] => (match sqOf d μ with
    | some xs => .val (.ref μ.length) (μ ++ [.lst xs])
    | none => .fail)
  | _ => .fail
@[simp] def gTuple : List D → Mu → Res D := fun ds μ => match ds with
  | [.tup xs] => .val (.tup xs) μ
  | [d] => (match lsOf d μ with
    | some xs => .val (.tup xs) μ
    | none => .fail)
  | _ => .fail
@[simp] def gMin2 : List D → Mu → Res D := fun ds μ => match ds with
  | [.int i, .int j] => .val (.int (if j < i then j else i)) μ
  | _ => .fail
@[simp] def gMax2 : List D → Mu → Res D := fun ds μ => match ds with
  | [.int i, .int j] => .val (.int (if j > i then j else i)) μ
  | _ => .fail
@[simp] def gAbs : List D → Mu → Res D := fun ds μ => match ds with
  | [.int i] => .val (.int (if i < 0 then -i else i)) μ
  | _ => .fail
section
variable {K : PySem.W.Frag} {W : WX} {H0 S0 : Hp} {ad0 : Ad} {S : Hp} {ad : Ad} {tmp : List (V × D)} {ρ : Ro} {μ : Mu} {σ : L2.St} {H : Hp} {x y : V} {d e : D}
theorem rpL1 {vs : List V} (r : RpL K S ad vs [d]) : ∃ v, vs = [v] ∧ Rp K S ad v d := by
  cases r with
  | cons h t => cases t; exact ⟨_, rfl, h⟩
theorem rpL2 {vs : List V} (r : RpL K S ad vs [d, e]) : ∃ v w, vs = [v, w] ∧ Rp K S ad v d ∧ Rp K S ad w e := by
  cases r with
  | cons h t =>
    obtain ⟨w, rfl, h2⟩ := rpL1 t
    exact ⟨_, w, rfl, h, h2⟩
theorem cb_len {X : Cx} : CbO X W (.builtin "len") gLen := ⟨_, call_len, ⟨fun {H0 S0 ad0 tmp ρ μ σ H Q xs ds} hl R k => by
  obtain ⟨S, ad, c, r⟩ := R.args hl
  unfold gLen at k
  split at k
  · rename_i z
    obtain ⟨v, rfl, rv⟩ := rpL1 r
    cases rv
    split at k
    · rename_i hz
      exact ⟨_, _, rfl, ⟨sz_of hz, rfl⟩, k _ _ (c.flat (flat_int _))⟩
    · exact k.elim
  · rename_i d _
    obtain ⟨v, rfl, rv⟩ := rpL1 r
    split at k
    · rename_i es hs
      obtain ⟨a, vs, rfl, q, rr⟩ := sqOf_at c rv hs
      rw [← rr.length] at k
      rcases q with q | q
      · exact ⟨_, vs.length, rfl, .inl ⟨vs, q, rfl⟩, k _ _ (c.flat (flat_int _))⟩
      · exact ⟨_, vs.length, rfl, .inr ⟨vs, q, rfl⟩, k _ _ (c.flat (flat_int _))⟩
    · exact k.elim
  · exact k.elim⟩⟩
theorem cb_list {X : Cx} : CbO X W (.type "list") gList := ⟨_, call_list_of, ⟨fun {H0 S0 ad0 tmp ρ μ σ H Q xs ds} hl R k => by
  obtain ⟨S, ad, c, r⟩ := R.args hl
  unfold gList at k
  split at k
  · rename_i d
    obtain ⟨v, rfl, rv⟩ := rpL1 r
    split at k
    · rename_i es hs
      obtain ⟨a, vs, rfl, q, rr⟩ := sqOf_at c rv hs
      exact ⟨a, vs, rfl, q, fun l hl => k _ _ (newLst c rr hl)⟩
    · exact k.elim
  · exact k.elim⟩⟩
theorem cb_listN {X : Cx} : CbO X W (.type "list") gListN := ⟨_, call_list_of, ⟨fun {H0 S0 ad0 tmp ρ μ σ H Q xs ds} hl R k => by
  obtain ⟨S, ad, c, r⟩ := R.args hl
  unfold gListN at k
  split at k
  · rename_i d
    obtain ⟨v, rfl, rv⟩ := rpL1 r
    split at k
    · rename_i es hs
      obtain ⟨a, vs, rfl, q, rr⟩ := sqOf_at c rv hs
      exact ⟨a, vs, rfl, q, fun l hl => k _ _ (newCell c rr hl)⟩
    · exact k.elim
  · exact k.elim⟩⟩
theorem cb_tuple {X : Cx} : CbO X W (.type "tuple") gTuple := ⟨_, call_tuple_of, ⟨fun {H0 S0 ad0 tmp ρ μ σ H Q xs ds} hl R k => by
  obtain ⟨S, ad, c, r⟩ := R.args hl
  unfold gTuple at k
  split at k
  · rename_i es
    obtain ⟨v, rfl, rv⟩ := rpL1 r
    cases rv with
    | tup hs rr => exact ⟨_, _, rfl, .inr ⟨.of (c.sh _ _ hs), k _ _ ⟨S, ad, c.push (.tup hs rr)⟩⟩⟩
  · rename_i d _
    obtain ⟨v, rfl, rv⟩ := rpL1 r
    split at k
    · rename_i es hs
      obtain ⟨a, vs, rfl, q, rr⟩ := lsOf_at c rv hs
      exact ⟨a, vs, rfl, .inl ⟨.of q, fun l hl => k _ _ (newTup c rr hl)⟩⟩
    · exact k.elim
  · exact k.elim⟩⟩
theorem cb_min2 {X : Cx} (hc : X.calm = true) : CbO X W (.builtin "min") gMin2 := ⟨_, call_min2 hc, ⟨fun {H0 S0 ad0 tmp ρ μ σ H Q xs ds} hl R k => by
  obtain ⟨S, ad, c, r⟩ := R.args hl
  unfold gMin2 at k
  split at k
  · rename_i i j
    obtain ⟨v, w, rfl, rv, rw⟩ := rpL2 r
    cases rv; cases rw
    exact ⟨i, j, rfl, k _ _ (c.flat (flat_int _))⟩
  · exact k.elim⟩⟩
theorem cb_max2 {X : Cx} (hc : X.calm = true) : CbO X W (.builtin "max") gMax2 := ⟨_, call_max2 hc, ⟨fun {H0 S0 ad0 tmp ρ μ σ H Q xs ds} hl R k => by
  obtain ⟨S, ad, c, r⟩ := R.args hl
  unfold gMax2 at k
  split at k
  · rename_i i j
    obtain ⟨v, w, rfl, rv, rw⟩ := rpL2 r
    cases rv; cases rw
    exact ⟨i, j, rfl, k _ _ (c.flat (flat_int _))⟩
  · exact k.elim⟩⟩
theorem cb_abs {X : Cx} : CbO X W (.builtin "abs") gAbs := ⟨_, call_abs, ⟨fun {H0 S0 ad0 tmp ρ μ σ H Q xs ds} hl R k => by
  obtain ⟨S, ad, c, r⟩ := R.args hl
  unfold gAbs at k
  split at k
  · rename_i i
    obtain ⟨v, rfl, rv⟩ := rpL1 r
    cases rv
    exact ⟨i, rfl, k _ _ (c.flat (flat_int _))⟩
  · exact k.elim⟩⟩
/-- all(xs), any(xs), xs truths -/
@[simp] def blsOf : List D → Option (List Bool)
  | [] => some []
  | .bl b :: r => (blsOf r).map (b :: ·)
  | _ :: _ => none
theorem blsOf_at {vs : List V} : ∀ {ds : List D} {bs : List Bool} {vs : List V}, RpL K S ad vs ds → blsOf ds = some bs → vs = bs.map V.bl
  | [], bs, _, r, h => by cases h; cases r; rfl
  | d :: ds, bs, _, r, h => by
    cases d <;> simp only [blsOf] at h <;> first | cases h | skip
    rename_i b
    cases r with
    | cons r1 r2 =>
      cases r1
      rw [Option.map_eq_some_iff] at h
      obtain ⟨cs, h1, rfl⟩ := h
      rw [blsOf_at (vs := vs) r2 h1]
      rfl
@[simp] def gAll : List D → Mu → Res D := fun ds μ => match ds with
  | [d] => (match (lsOf d μ).bind blsOf with
    | some bs => .val (.bl (bs.all id)) μ
    | none => .fail)
  | _ => .fail
@[simp] def gAny : List D → Mu → Res D := fun ds μ => match ds with
  | [d] => (match (lsOf d μ).bind blsOf with
    | some bs => .val (.bl (bs.any id)) μ
    | none => .fail)
  | _ => .fail
theorem cb_all {X : Cx} (hc : X.calm = true) : CbO X W (.builtin "all") gAll := ⟨_, cr_all hc, ⟨fun {H0 S0 ad0 tmp ρ μ σ H Q xs ds} hl R k => by
  obtain ⟨S, ad, c, r⟩ := R.args hl
  unfold gAll at k
  split at k
  · rename_i d
    obtain ⟨v, rfl, rv⟩ := rpL1 r
    split at k
    · rename_i bs hs
      rw [Option.bind_eq_some_iff] at hs
      obtain ⟨es, h1, h2⟩ := hs
      obtain ⟨a, vs, rfl, q, rr⟩ := lsOf_at c rv h1
      have e := blsOf_at (vs := vs) rr h2
      subst e
      exact ⟨a, bs, rfl, .of q, k _ _ (c.flat (flat_bl _))⟩
    · exact k.elim
  · exact k.elim⟩⟩
theorem cb_any {X : Cx} (hc : X.calm = true) : CbO X W (.builtin "any") gAny := ⟨_, cr_any hc, ⟨fun {H0 S0 ad0 tmp ρ μ σ H Q xs ds} hl R k => by
  obtain ⟨S, ad, c, r⟩ := R.args hl
  unfold gAny at k
  split at k
  · rename_i d
    obtain ⟨v, rfl, rv⟩ := rpL1 r
    split at k
    · rename_i bs hs
      rw [Option.bind_eq_some_iff] at hs
      obtain ⟨es, h1, h2⟩ := hs
      obtain ⟨a, vs, rfl, q, rr⟩ := lsOf_at c rv h1
      have e := blsOf_at (vs := vs) rr h2
      subst e
      exact ⟨a, bs, rfl, .of q, k _ _ (c.flat (flat_bl _))⟩
    · exact k.elim
  · exact k.elim⟩⟩
/-- isinstance(x, T), T a built-in class that is written there -/
@[simp] def tyOf (d : D) (μ : Mu) : Option String := match d with
  | .non => some "NoneType"
  | .bl _ => some "bool"
  | .int _ => some "int"
  | .str _ => some "str"
  | .tup _ => some "tuple"
  | .lst _ => some "list"
  | .ref n => (match μ[n]? with
    | some (.lst _) => some "list"
    | some (.dK _) => some "dict"
    | some (.dT _) => some "dict"
    | _ => none)
  | _ => none
theorem tyOf_at {t : String} {v : V} (c : Core K H0 S0 ad0 S ad tmp ρ μ σ H) (r : Rp K S ad v d) (h : tyOf d μ = some t) : TyX K H v (.type t) := by
  cases r <;> simp only [tyOf] at h <;> first | cases h | skip
  · exact .base .non
  · exact .base (.bl _)
  · exact .base (.int _)
  · exact .base (.str _)
  · rename_i hs _; exact .base (.tup (c.sh _ _ hs))
  · rename_i hs _; exact .base (.lst (c.sh _ _ hs))
  · rename_i a n ha
    split at h
    · rename_i hm; cases h
      obtain ⟨_, h1, _⟩ := c.at_ n a _ ha hm
      exact .base (.lst h1)
    · rename_i hm; cases h
      obtain ⟨_, h1, _⟩ := c.at_ n a _ ha hm
      exact .base (.dK h1)
    · rename_i hm; cases h
      obtain ⟨_, h1, _⟩ := c.at_ n a _ ha hm
      exact .base (.dT h1)
    · cases h
/-- the answers, by the classes' names -/
def isaB (t u : String) : Option Bool := kitB t u
@[simp] def gIsi : List D → Mu → Res D := fun ds μ => match ds with
  | [d, .raw (.ty u)] => (match (tyOf d μ).bind fun t => kitB t u with
    | some b => .val (.bl b) μ
    | none => .fail)
  | _ => .fail
theorem cb_isi {X : Cx} : CbO X W (.builtin "isinstance") gIsi := ⟨_, call_isi, ⟨fun {H0 S0 ad0 tmp ρ μ σ H Q xs ds} hl R k => by
  obtain ⟨S, ad, c, r⟩ := R.args hl
  unfold gIsi at k
  split at k
  · rename_i d u
    obtain ⟨v, w, rfl, rv, rw⟩ := rpL2 r
    cases rw
    split at k
    · rename_i b hb
      rw [Option.bind_eq_some_iff] at hb
      obtain ⟨t, h1, h2⟩ := hb
      exact ⟨v, .ty u, .type t, .type u, b, rfl, .ty u, tyOf_at c rv h1, kit_ty h2, k _ _ (c.flat (flat_bl _))⟩
    · exact k.elim
  · exact k.elim⟩⟩
/-! ### in, not in: flat values in a list or a tuple; one sign in a text -/
@[simp] def flV : D → Option V
  | .non => some .non
  | .bl b => some (.bl b)
  | .int i => some (.int i)
  | .str s => some (.str s)
  | _ => none
@[simp] def flVs : List D → Option (List V)
  | [] => some []
  | d :: ds => (flV d).bind fun v => (flVs ds).map (v :: ·)
theorem flV_at {v w : V} (r : Rp K S ad v d) (h : flV d = some w) : v = w ∧ flatV w = true := by
  cases r <;> simp only [flV] at h <;> cases h <;> exact ⟨rfl, rfl⟩
theorem flVs_at : ∀ {ds : List D} {vs ws : List V}, RpL K S ad vs ds → flVs ds = some ws → vs = ws ∧ ws.all flatV = true
  | [], _, _, r, h => by cases h; cases r; exact ⟨rfl, rfl⟩
  | d :: ds, _, _, r, h => by
    cases r with
    | cons r1 r2 =>
      simp only [flVs, Option.bind_eq_some_iff, Option.map_eq_some_iff] at h
      obtain ⟨v, h1, ws, h2, rfl⟩ := h
      obtain ⟨rfl, e1⟩ := flV_at r1 h1
      obtain ⟨rfl, e2⟩ := flVs_at r2 h2
      exact ⟨rfl, by rw [List.all_cons, e1, e2]; rfl⟩
def gInF (neg : Bool) : GF := fun d e μ => match flV d, (sqOf e μ).bind flVs with
  | some x, some xs => .val (.bl (if neg then !inV x xs else inV x xs)) μ
  | _, _ => .fail
theorem simO_in {neg : Bool} : SimO K W (rIn K neg) (gInF neg) := ⟨fun {H0 S0 ad0 tmp ρ μ σ H Q x y d e} R k => by
  obtain ⟨S, ad, c, r1, r2⟩ := R.two
  unfold gInF at k
  split at k
  · rename_i w ws h1 h2
    rw [Option.bind_eq_some_iff] at h2
    obtain ⟨es, h2, h3⟩ := h2
    obtain ⟨a, vs, rfl, q, rr⟩ := sqOf_at c r2 h2
    obtain ⟨rfl, e1⟩ := flV_at r1 h1
    obtain ⟨rfl, e2⟩ := flVs_at rr h3
    exact ⟨a, _, rfl, q, e1, e2, k _ _ (c.flat (flat_bl _))⟩
  · exact k.elim⟩
def one (x : Str) : Nat := x.cps.getD 0 0
def gInS (neg : Bool) : GF := fun d e μ => match d, e with
  | .str x, .str z => if x = ⟨#[one x]⟩ then .val (.bl (if neg then !decide (one x ∈ z.cps.toList) else decide (one x ∈ z.cps.toList))) μ else .fail
  | _, _ => .fail
theorem simO_inS : SimO K W (fun x y H Q => ∃ (c : Nat) (z : Str), x = .str ⟨#[c]⟩ ∧ y = .str z ∧ Q (.bl (decide (c ∈ z.cps.toList))) H) (gInS false) := ⟨fun {H0 S0 ad0 tmp ρ μ σ H Q x y d e} R k => by
  obtain ⟨S, ad, c, r1, r2⟩ := R.two
  unfold gInS at k
  split at k
  · cases r1; cases r2
    split at k
    · rename_i hx
      exact ⟨_, _, congrArg V.str hx, rfl, k _ _ (c.flat (flat_bl _))⟩
    · exact k.elim
  · exact k.elim⟩
theorem simO_notInS : SimO K W (fun x y H Q => ∃ (c : Nat) (z : Str), x = .str ⟨#[c]⟩ ∧ y = .str z ∧ Q (.bl (!decide (c ∈ z.cps.toList))) H) (gInS true) := ⟨fun {H0 S0 ad0 tmp ρ μ σ H Q x y d e} R k => by
  obtain ⟨S, ad, c, r1, r2⟩ := R.two
  unfold gInS at k
  split at k
  · cases r1; cases r2
    split at k
    · rename_i hx
      exact ⟨_, _, congrArg V.str hx, rfl, k _ _ (c.flat (flat_bl _))⟩
    · exact k.elim
  · exact k.elim⟩
def gIn : GF := orG (gInF false) (gInS false)
def gNotIn : GF := orG (gInF true) (gInS true)
theorem oc_in {X : Cx} : CmO X W .In gIn := ⟨_, op_in_seq.or op_in_sign, simO_in.or simO_inS⟩
theorem oc_notin {X : Cx} : CmO X W .NotIn gNotIn := ⟨_, op_notIn_seq.or op_notIn_sign, simO_in.or simO_notInS⟩
end
/-! ### methods of lists that are cells -/
@[simp] def tyMt (T : String) (d : D) (μ : Mu) : Bool := match d with
  | .str _ => T == "str"
  | .lst _ => T == "list"
  | .ref n => (match μ[n]? with
    | some (.lst _) => T == "list"
    | some (.dK _) => T == "dict"
    | some (.dT _) => T == "dict"
    | _ => false)
  | _ => false
abbrev MF := D → List D → Mu → Res D
structure SimM (K : PySem.W.Frag) (W : WX) (r : V → List V → Hp → VK → Prop) (g : MF) : Prop where
  run : ∀ {H0 S0 : Hp} {ad0 : Ad} {tmp : List (V × D)} {ρ : Ro} {μ : Mu} {σ : L2.St} {H : Hp} {Q : VK} {x : V} {d : D} {xs : List V} {ds : List D}, xs.length = ds.length → Rel K H0 S0 ad0 (xs.zip ds ++ (x, d) :: tmp) ρ μ σ H → PostE K W H0 S0 ad0 tmp ρ σ Q (g d ds μ) → r x xs H Q
def MtO (X : Cx) (W : WX) (id : String) (g : MF) : Prop := ∃ r, MtR X id r ∧ SimM X.K W r g
@[simp] def eBM (T : String) (g : MF) (o : EF) (a : AF) : EF := fun ρ μ => (o ρ μ).bind fun d μ1 => match tyMt T d μ1 with
  | true => (a ρ μ1).bind fun ds μ2 => g d ds μ2
  | false => .fail
section
variable {K : PySem.W.Frag} {W : WX} {H0 S0 : Hp} {ad0 : Ad} {S : Hp} {ad : Ad} {tmp : List (V × D)} {ρ : Ro} {μ : Mu} {σ : L2.St} {H : Hp} {x y v : V} {d e : D} {T : String}
theorem tyMt_at (c : Core K H0 S0 ad0 S ad tmp ρ μ σ H) (r : Rp K S ad v d) (h : tyMt T d μ = true) : tyV K T v H := by
  cases r <;> simp only [tyMt] at h <;> first | cases h | skip
  · exact eq_of_beq h
  · rename_i hs _; exact .inl ⟨eq_of_beq h, _, .of (c.sh _ _ hs)⟩
  · rename_i a n ha
    split at h
    · rename_i hm
      obtain ⟨_, h1, _⟩ := c.at_ n a _ ha hm
      exact .inl ⟨eq_of_beq h, _, .of h1⟩
    · rename_i hm
      obtain ⟨_, h1, _⟩ := c.at_ n a _ ha hm
      exact .inr (.inr (.inl ⟨eq_of_beq h, .inl ⟨_, h1⟩⟩))
    · rename_i hm
      obtain ⟨_, h1, _⟩ := c.at_ n a _ ha hm
      exact .inr (.inr (.inl ⟨eq_of_beq h, .inr ⟨_, h1⟩⟩))
    · cases h
theorem simE_bm {to : TE} {ta : TA} {fo : EF} {fa : AF} {r : V → List V → Hp → VK → Prop} {g : MF} (ho : SimE K W to fo) (ha : SimA K W ta fa) (hm : SimM K W r g) : SimE K W (tBM K T r to ta) (eBM T g fo fa) := ⟨fun {H0 S0 ad0 tmp ρ μ σ H Q} R k => by
  refine ho.run R ?_
  unfold eBM at k
  cases e1 : fo ρ μ with
  | fail => rw [e1] at k; exact k.elim
  | exc x μ1 => rw [e1] at k; exact k
  | val d μ1 =>
    rw [e1] at k
    simp only [bind_val] at k
    intro v H1 R1
    split at k
    · rename_i hty
      obtain ⟨S, ad, c, rv⟩ := R1.one
      refine ⟨tyMt_at c rv hty, ha.run R1 ?_⟩
      cases e2 : fa ρ μ1 with
      | fail => rw [e2] at k; exact k.elim
      | exc x μ1 => rw [e2] at k; exact fun cls dd H r => k cls dd H r.pop
      | val ds μ2 =>
        rw [e2] at k
        exact fun vs H2 hl R2 => hm.run hl R2 k
    · exact k.elim⟩
theorem simE_bm0 {to : TE} {fo : EF} {r : V → List V → Hp → VK → Prop} {g : MF} (ho : SimE K W to fo) (hm : SimM K W r g) : SimE K W (tBM0 K T r to) (eBM T g fo aNil) := ⟨fun {H0 S0 ad0 tmp ρ μ σ H Q} R k => by
  refine ho.run R ?_
  unfold eBM aNil at k
  cases e1 : fo ρ μ with
  | fail => rw [e1] at k; exact k.elim
  | exc x μ1 => rw [e1] at k; exact k
  | val d μ1 =>
    rw [e1] at k
    simp only [bind_val] at k
    intro v H1 R1
    split at k
    · rename_i hty
      obtain ⟨S, ad, c, rv⟩ := R1.one
      exact ⟨tyMt_at c rv hty, hm.run (xs := []) (ds := []) rfl R1 k⟩
    · exact k.elim⟩
theorem Rel.margs {xs : List V} {ds : List D} (hl : xs.length = ds.length) (r : Rel K H0 S0 ad0 (xs.zip ds ++ (x, d) :: tmp) ρ μ σ H) : ∃ S ad, Core K H0 S0 ad0 S ad tmp ρ μ σ H ∧ Rp K S ad x d ∧ RpL K S ad xs ds := by
  obtain ⟨S, ad, c, h⟩ := r.args hl
  exact ⟨S, ad, c.pop, c.hd, h⟩
@[simp] def gAppend : MF := fun d ds μ => match d, ds with
  | .ref n, [y] => (match μ[n]? with
    | some (.lst xs) => if xs.length < 100000 then .val .non (μ.set n (.lst (xs ++ [y]))) else .fail
    | _ => .fail)
  | _, _ => .fail
theorem wrLst {n : Nat} {a : Addr} {xs ys : List D} {ws : List V} (c : Core K H0 S0 ad0 S ad tmp ρ μ σ H) (ha : ad[n]? = some a) (r : RpL K S ad ws ys) : Core K H0 S0 ad0 S ad tmp ρ (μ.set n (.lst ys)) σ (upd H a (.lst ws)) :=
  c.wr ha ⟨ws, upd_same, r⟩
theorem mo_append {X : Cx} : MtO X W "list.append" gAppend := ⟨_, mt_append, ⟨fun {H0 S0 ad0 tmp ρ μ σ H Q x d xs ds} hl R k => by
  obtain ⟨S, ad, c, rx, ra⟩ := R.margs hl
  unfold gAppend at k
  split at k
  · rename_i n y
    obtain ⟨w, rfl, ry⟩ := rpL1 ra
    split at k
    · rename_i zs hm
      split at k
      · rename_i hz
        cases rx with
        | ref ha =>
          rename_i a
          obtain ⟨vs, h1, h2⟩ := c.at_ n a _ ha hm
          exact ⟨a, vs, w, rfl, rfl, h1, sz_lt (by rw [h2.length]; exact hz), k _ _ ((wrLst (xs := zs) c ha (h2.append (.cons ry .nil))).flat flat_non)⟩
      · exact k.elim
    · exact k.elim
  · exact k.elim⟩⟩
@[simp] def gPop : MF := fun d ds μ => match d, ds with
  | .ref n, [] => (match μ[n]? with
    | some (.lst xs) => (match xs[xs.length - 1]? with
      | some y => .val y (μ.set n (.lst xs.dropLast))
      | none => .fail)
    | _ => .fail)
  | _, _ => .fail
theorem mo_pop {X : Cx} : MtO X W "list.pop" gPop := ⟨_, mt_pop, ⟨fun {H0 S0 ad0 tmp ρ μ σ H Q x d xs ds} hl R k => by
  obtain ⟨S, ad, c, rx, ra⟩ := R.margs hl
  unfold gPop at k
  split at k
  · rename_i n
    cases ra
    split at k
    · rename_i zs hm
      split at k
      · rename_i y hy
        cases rx with
        | ref ha =>
          rename_i a
          obtain ⟨vs, h1, h2⟩ := c.at_ n a _ ha hm
          obtain ⟨v, g1, g2⟩ := h2.get hy
          exact ⟨a, vs, v, rfl, rfl, h1, by rw [h2.length]; exact g1, k _ _ ⟨S, ad, (wrLst (xs := zs) c ha h2.dropLast).push g2⟩⟩
      · exact k.elim
    · exact k.elim
  · exact k.elim⟩⟩
@[simp] def gPopAt : MF := fun d ds μ => match d, ds with
  | .ref n, [.int i] => (match μ[n]? with
    | some (.lst xs) => if 0 ≤ i ∧ i < 100000 then (match xs[i.toNat]? with
      | some y => .val y (μ.set n (.lst (xs.eraseIdx i.toNat)))
      | none => .fail) else .fail
    | _ => .fail)
  | _, _ => .fail
theorem mo_popAt {X : Cx} : MtO X W "list.pop" gPopAt := ⟨_, mt_popAt, ⟨fun {H0 S0 ad0 tmp ρ μ σ H Q x d xs ds} hl R k => by
  obtain ⟨S, ad, c, rx, ra⟩ := R.margs hl
  unfold gPopAt at k
  split at k
  · rename_i n i
    obtain ⟨w, rfl, ry⟩ := rpL1 ra
    cases ry
    split at k
    · rename_i zs hm
      split at k
      · rename_i hi
        split at k
        · rename_i y hy
          cases rx with
          | ref ha =>
            rename_i a
            obtain ⟨vs, h1, h2⟩ := c.at_ n a _ ha hm
            obtain ⟨v, g1, g2⟩ := h2.get hy
            have hlt : i.toNat < vs.length := (List.getElem?_eq_some_iff.mp g1).1
            refine ⟨a, vs, i, i.toNat, v, rfl, rfl, h1, by omega, by omega, ?_, g1, k _ _ ⟨S, ad, (wrLst (xs := zs) c ha (h2.erase i.toNat)).push g2⟩⟩
            have := (ixN_seq (n := vs.length) (i := i) (j := i.toNat) (by unfold ixN; rw [if_pos hi.1, if_pos (by omega)])).1
            exact this
        · exact k.elim
      · exact k.elim
    · exact k.elim
  · exact k.elim⟩⟩
end
section
variable {X : Cx} {W : WX} {o e : Expr} {es : List Expr} {fo : EF} {fa : AF} {name : Str} {apos cpos : Pos} {T id : String} {g : MF}
theorem de_bm0 (pa : PlainAttrs T) (slot : Slot T name id) (hty : typeOf (.builtin id) = pure (.type "method_descriptor")) (hm : MtO X W id g) (ho : DE X W o fo)
    (hbase : attributeBase o name X.env (eval o X.env) = eval o X.env := by rfl) (hline : (apos.endLine == cpos.line) = true := by rfl) : DE X W (.Call (.Attribute o name apos) [] [] cpos) (eBM T g fo aNil) :=
  let ⟨_, h1, h2⟩ := hm; let ⟨_, p1, q1⟩ := ho; ⟨_, pe_bm0 pa slot hty h1 p1 hbase hline, simE_bm0 q1 h2⟩
theorem de_bm (pa : PlainAttrs T) (slot : Slot T name id) (hty : typeOf (.builtin id) = pure (.type "method_descriptor")) (hm : MtO X W id g) (ho : DE X W o fo) (ha : DA X W (e :: es) fa)
    (hbase : attributeBase o name X.env (eval o X.env) = eval o X.env := by rfl)
    (hfew : ((backTo cpos (starEach (e :: es) X.env)).all (fun x => !x.1) && (backToKw cpos (keywordEach [] X.env)).all (fun x => x.1.isSome)
      && decide ((e :: es).length + ([] : List Keyword).length + (if ([] : List Keyword).isEmpty then 0 else 1) < 30)) = true := by rfl)
    (hline : (apos.endLine == cpos.line) = true := by rfl) (hs : starEach (e :: es) X.env = (false, eval e X.env) :: starEach es X.env := by rfl) (hplain : (backTo cpos (starEach es X.env)).any (·.1) = false := by rfl) :
    DE X W (.Call (.Attribute o name apos) (e :: es) [] cpos) (eBM T g fo fa) :=
  let ⟨_, h1, h2⟩ := hm; let ⟨_, p1, q1⟩ := ho; let ⟨_, p2, q2⟩ := ha; ⟨_, pe_bm pa slot hty h1 p1 p2 hbase hfew hline hs hplain, simE_bm q1 q2 h2⟩
end
/-! ### statements' rules -/
def DG (X : Cx) (tg : Expr) (g : GT) : Prop := ∃ t, PG X tg t ∧ SimG X.K t g
def DGs (X : Cx) (ts : List Expr) (g : GTs) : Prop := ∃ t, PGs X ts t ∧ SimGs X.K t g
def DI (X : Cx) (W : WX) (tg iter : Expr) (f : AF) : Prop := ∃ wi, PI X tg iter wi ∧ SimI X.K W wi f
section
variable {X : Cx} {W : WX} {a b e o tg iter c : Expr} {es : List Expr} {sts body els : List Stmt} {st : Stmt} {f fe : EF} {ft : TF} {fi : AF} {g : GT} {gs : GTs} {s u : SF} {pos pos' p : Pos} {x : Str} {i : Nat}
theorem dss_nil : DSs X W [] sNext := ⟨_, pss_nil, simS_next⟩
theorem dss_cons (h1 : DS X W st s) (h2 : DSs X W sts u) : DSs X W (st :: sts) (sSeq s u) := let ⟨_, p1, q1⟩ := h1; let ⟨_, p2, q2⟩ := h2; ⟨_, pss_cons p1 p2, simS_seq q1 q2⟩
theorem dss_one (h1 : DS X W st s) : DSs X W [st] s := let ⟨_, p1, q1⟩ := h1; ⟨_, pss_one p1, q1⟩
theorem ds_set (i : Nat) {x : Str} {e : Expr} {pos' pos : Pos} (hN : X.N.Nodup) (he : DE X W e fe) (hi : X.N[i]? = some x := by rfl) (hx : Loc X.env.scope x := by first | exact Or.inl rfl | exact Or.inr rfl)
    (hs : swapsWith e (some (.Name x pos')) pos.line X.env = pure false := by rfl) (hf : X.fn x = true ∨ X.env.scope.names.lookup x = some .local := by first | exact .inl rfl | exact .inr rfl | assumption) :
    DS X W (.Assign [.Name x pos'] e pos) (sAsg i fe) := let ⟨_, p1, q1⟩ := he; ⟨_, ps_set hN hi hx p1 hs hf, simS_asg q1 (simG_n i)⟩
theorem ds_asg (he : DE X W e fe) (hg : DG X tg g) (hs : swapsWithSole [tg] e pos.line X.env = pure false := by rfl) (hw : swappedStores [tg] e X.env = pure none := by rfl) (h1 : (assignEach [tg] X.env).map (·.2) = [assign tg X.env] := by rfl) : DS X W (.Assign [tg] e pos) (sAsgG fe g) :=
  let ⟨_, p1, q1⟩ := he; let ⟨_, p2, q2⟩ := hg; ⟨_, ps_asg p1 p2 hs hw h1, simS_asg q1 q2⟩
theorem dg_n (i : Nat) {x : Str} {pos : Pos} (hN : X.N.Nodup) (hi : X.N[i]? = some x := by rfl) (hx : Loc X.env.scope x := by first | exact Or.inl rfl | exact Or.inr rfl) (hf : X.fn x = true ∨ X.env.scope.names.lookup x = some .local := by first | exact .inl rfl | exact .inr rfl | assumption) :
    DG X (.Name x pos) (gN i) := ⟨_, pg_name hN hi hx hf, simG_n i⟩
theorem dgs_nil : DGs X [] gN0 := ⟨_, pgs_nil, simGs_nil⟩
theorem dgs_cons (h1 : DG X e g) (h2 : DGs X es gs) (hs : (assignEach (e :: es) X.env).map (·.2) = assign e X.env :: (assignEach es X.env).map (·.2) := by rfl) : DGs X (e :: es) (gC g gs) := let ⟨_, p1, q1⟩ := h1; let ⟨_, p2, q2⟩ := h2; ⟨_, pgs_cons p1 p2 hs, simGs_cons q1 q2⟩
theorem dg_tup {k : Nat} (n : Nat) (hc : X.calm = true) (h : DGs X es gs) (hn : (assignEach es X.env).length = n := by rfl) (hst : (assignEach es X.env).findIdx? (·.1) = none := by rfl) : DG X (.Tuple es k pos) (gTp n gs) := by
  obtain ⟨_, p1, q1⟩ := h
  exact ⟨_, pg_tup hc p1 hn hst, simG_tup q1⟩
theorem ds_expr (he : DE X W e fe) (hs : swapsWith e none pos.line X.env = pure false := by rfl) : DS X W (.Expr e pos) (sDrop fe) := let ⟨_, p1, q1⟩ := he; ⟨_, ps_expr p1 hs, simS_drop q1⟩
theorem ds_ret (he : DE X W e fe) : DS X W (.Return (some e) pos) (sRet fe) := let ⟨_, p1, q1⟩ := he; ⟨_, ps_ret p1, simS_ret q1⟩
theorem ds_retN : DS X W (.Return none pos) sRetN := ⟨_, ps_retN, simS_retN⟩
theorem ds_break : DS X W (.Break pos) sBreak := ⟨_, ps_break, simS_break⟩
theorem ds_cont : DS X W (.Continue pos) sCont := ⟨_, ps_continue, simS_cont⟩
theorem ds_if (ht : DT X W c ft) (ha : DSs X W body s) (hb : DSs X W els u) : DS X W (.If c body els pos) (sIf ft s u) := let ⟨_, p0, q0⟩ := ht; let ⟨_, p1, q1⟩ := ha; let ⟨_, p2, q2⟩ := hb; ⟨_, ps_if p0 p1 p2, simS_if q0 q1 q2⟩
theorem ds_while (N : Nat) (hp : PassesOwn (model X.prog X.w) X.A X.env X.xe) (ht : DT X W c ft) (hb : DSs X W body s) : DS X W (.While c body [] pos) (sWhile N ft s) := let ⟨_, p0, q0⟩ := ht; let ⟨_, p1, q1⟩ := hb; ⟨_, ps_while hp p0 p1, simS_while N q0 q1⟩
theorem ds_for (hp : PassesOwn (model X.prog X.w) X.A X.env X.xe) (hc : X.calm = true) (hi : DI X W tg iter fi) (hg : DG X tg g) (hb : DSs X W body s) (hs : ∀ x, foldedSetIterable iter X.env x = pure x := by intro _; rfl) : DS X W (.For tg iter body [] pos) (sFor fi g s) :=
  let ⟨_, p0, q0⟩ := hi; let ⟨_, p1, q1⟩ := hg; let ⟨_, p2, q2⟩ := hb; ⟨_, ps_for hp hc p0 p1 p2 hs, simS_for q0 q1 q2⟩
/-- x += e, ints -/
theorem sim_ipI {K : PySem.W.Frag} {W : WX} {h : Int → Int → Int} : SimO K W (ipI h) (gI fun i j => .int (h i j)) := ⟨fun {H0 S0 ad0 tmp ρ μ σ H Q x y d e} R k => by
  obtain ⟨S, ad, c, r1, r2⟩ := R.two
  unfold gI at k
  split at k
  · rename_i i j
    cases r1; cases r2
    exact ⟨i, j, rfl, rfl, k _ _ (c.flat (flat_int _))⟩
  · exact k.elim⟩
theorem ds_augAdd (i : Nat) {x : Str} {e : Expr} {pos' pos : Pos} (hN : X.N.Nodup) (he : DE X W e fe) (hi : X.N[i]? = some x := by rfl) (hx : Loc X.env.scope x := by first | exact Or.inl rfl | exact Or.inr rfl) (hf : X.fn x = true ∨ X.env.scope.names.lookup x = some .local := by first | exact .inl rfl | exact .inr rfl | assumption) :
    DS X W (.AugAssign (.Name x pos') .Add e pos) (sAug i fe (gI fun i j => .int (i + j))) := let ⟨_, p1, q1⟩ := he; ⟨_, ps_aug hN hi hx p1 ip_add hf, simS_aug q1 sim_ipI⟩
/-- range(n), range(a, b) -/
@[simp] def iRange1 (a : AF) : AF := fun ρ μ => (a ρ μ).bind fun ds μ1 => match ds with
  | [.int n] => if Rng n then .val ((List.range n.toNat).map fun i : Nat => D.int (0 + (i : Int))) μ1 else .fail
  | _ => .fail
@[simp] def iRange2 (a : AF) : AF := fun ρ μ => (a ρ μ).bind fun ds μ1 => match ds with
  | [.int m, .int n] => if Rng m ∧ Rng n then .val ((List.range (n - m).toNat).map fun i : Nat => D.int (m + (i : Int))) μ1 else .fail
  | _ => .fail
theorem jw_range {K : PySem.W.Frag} (lo : Int) (n : Nat) : JW K (Itr lo n) ((List.range n).map fun i : Nat => D.int (lo + (i : Int))) [] := fun {H0 S0 ad0 tmp ρ μ σ H} R i => by
  refine ⟨fun d hd => ?_, fun hi => by rw [List.length_map, List.length_range] at hi; exact hi⟩
  rw [List.getElem?_map] at hd
  cases e : (List.range n)[i]? with
  | none => rw [e] at hd; cases hd
  | some j =>
    rw [e] at hd
    cases hd
    obtain ⟨h1, h2⟩ := List.getElem?_eq_some_iff.mp e
    rw [List.getElem_range] at h2
    subst h2
    rw [List.length_range] at h1
    refine ⟨h1, fun x H' y => ?_⟩
    obtain ⟨rfl, rfl⟩ := y
    exact R.flat (flat_int _)
theorem di_range1 {ta : AF} (hg : Gl X "range") (hm : X.mg "range" = none) (ha : DA X W [a] ta) (hs : starEach [a] X.env = [(false, eval a X.env)] := by rfl) : DI X W tg (.Call (.Name "range" p) [a] [] pos) (iRange1 ta) := by
  obtain ⟨t, p1, q1⟩ := ha
  refine ⟨_, pi_range1 hg hm p1 hs, ⟨fun {H0 S0 ad0 tmp ρ μ σ H R} r k => ?_⟩⟩
  refine q1.run r ?_
  unfold iRange1 at k
  cases e1 : ta ρ μ with
  | fail => rw [e1] at k; exact k.elim
  | exc x μ1 => rw [e1] at k; exact k
  | val ds μ1 =>
    rw [e1] at k
    simp only [bind_val] at k
    intro vs H1 hl R1
    split at k
    · rename_i n
      split at k
      · rename_i hn
        obtain ⟨S, ad, c, ra⟩ := R1.args hl
        obtain ⟨v, rfl, rv⟩ := rpL1 ra
        cases rv
        exact ⟨n, rfl, hn.lo, hn.hi, k _ [] _ ⟨S, ad, c⟩ (jw_range 0 n.toNat)⟩
      · exact k.elim
    · exact k.elim
theorem di_range2 {ta : AF} (hg : Gl X "range") (hm : X.mg "range" = none) (ha : DA X W [a, b] ta) (hs : starEach [a, b] X.env = [(false, eval a X.env), (false, eval b X.env)] := by rfl) (hs2 : starEach [b] X.env = [(false, eval b X.env)] := by rfl) : DI X W tg (.Call (.Name "range" p) [a, b] [] pos) (iRange2 ta) := by
  obtain ⟨t, p1, q1⟩ := ha
  refine ⟨_, pi_range2 hg hm p1 hs hs2, ⟨fun {H0 S0 ad0 tmp ρ μ σ H R} r k => ?_⟩⟩
  refine q1.run r ?_
  unfold iRange2 at k
  cases e1 : ta ρ μ with
  | fail => rw [e1] at k; exact k.elim
  | exc x μ1 => rw [e1] at k; exact k
  | val ds μ1 =>
    rw [e1] at k
    simp only [bind_val] at k
    intro vs H1 hl R1
    split at k
    · rename_i m n
      split at k
      · rename_i hn
        obtain ⟨S, ad, c, ra⟩ := R1.args hl
        obtain ⟨v, w, rfl, rv, rw⟩ := rpL2 ra
        cases rv; cases rw
        exact ⟨m, n, rfl, ⟨hn.1.lo, hn.1.hi, hn.2.lo, hn.2.hi⟩, k _ [] _ ⟨S, ad, c⟩ (jw_range m (n - m).toNat)⟩
      · exact k.elim
    · exact k.elim
/-- a list that stands still, a tuple -/
@[simp] def iSeq (f : EF) : AF := fun ρ μ => (f ρ μ).bind fun d μ1 => match d with
  | .lst xs => .val xs μ1
  | .scr ns => .val (mapD D.int ns) μ1
  | _ => .fail
@[simp] def iTupl (f : EF) : AF := fun ρ μ => (f ρ μ).bind fun d μ1 => match d with
  | .tup xs => .val xs μ1
  | _ => .fail
theorem jw_list {K : PySem.W.Frag} {a : Addr} {xs : List D} : JW K (Itl K a) xs [(.ref a, .lst xs)] := fun {H0 S0 ad0 tmp ρ μ σ H} R i => by
  obtain ⟨S, ad, c⟩ := id R
  have r : Rp K S ad (.ref a) (.lst xs) := c.hd
  cases r with
  | lst hs rr =>
    rename_i vs
    refine ⟨fun d hd => ?_, fun hi => ⟨vs, .of (c.sh _ _ hs), by rw [rr.length]; exact hi⟩⟩
    obtain ⟨v, h1, h2⟩ := rr.get hd
    refine ⟨⟨vs, v, .of (c.sh _ _ hs), h1⟩, fun x H' y => ?_⟩
    obtain ⟨rfl, y⟩ := y
    have e := y vs (.of (c.sh _ _ hs))
    rw [h1] at e
    cases e
    exact ⟨S, ad, c.push h2⟩
theorem jw_scr {K : PySem.W.Frag} {a : Addr} {ns : List Int} : JW K (Itl K a) (mapD D.int ns) [(.ref a, .scr ns)] := fun {H0 S0 ad0 tmp ρ μ σ H} R i => by
  obtain ⟨S, ad, c⟩ := id R
  have r : Rp K S ad (.ref a) (.scr ns) := c.hd
  cases r with
  | scr hs =>
    have hs := c.sh.seq hs
    refine ⟨fun d hd => ?_, fun hi => ⟨_, hs, by unfold mapD at hi; rw [List.length_map] at hi ⊢; exact hi⟩⟩
    obtain ⟨v, h1, h2⟩ := (RpL.of_ints (K := K) (S := S) (ad := ad) ns).get hd
    refine ⟨⟨_, v, hs, h1⟩, fun x H' y => ?_⟩
    obtain ⟨rfl, y⟩ := y
    have e := y _ hs
    rw [h1] at e
    cases e
    exact ⟨S, ad, c.push h2⟩
theorem jw_tup {K : PySem.W.Frag} {a : Addr} {xs : List D} : JW K (Itt K a) xs [(.ref a, .tup xs)] := fun {H0 S0 ad0 tmp ρ μ σ H} R i => by
  obtain ⟨S, ad, c⟩ := id R
  have r : Rp K S ad (.ref a) (.tup xs) := c.hd
  cases r with
  | tup hs rr =>
    rename_i vs
    refine ⟨fun d hd => ?_, fun hi => ⟨vs, .of (c.sh _ _ hs), by rw [rr.length]; exact hi⟩⟩
    obtain ⟨v, h1, h2⟩ := rr.get hd
    refine ⟨⟨vs, v, .of (c.sh _ _ hs), h1⟩, fun x H' y => ?_⟩
    obtain ⟨rfl, y⟩ := y
    have e := y vs (.of (c.sh _ _ hs))
    rw [h1] at e
    cases e
    exact ⟨S, ad, c.push h2⟩
theorem di_list (he : DE X W iter fe) : DI X W tg iter (iSeq fe) := by
  obtain ⟨t, p1, q1⟩ := he
  refine ⟨_, pi_list p1, ⟨fun {H0 S0 ad0 tmp ρ μ σ H R} r k => ?_⟩⟩
  refine q1.run r ?_
  unfold iSeq at k
  cases e1 : fe ρ μ with
  | fail => rw [e1] at k; exact k.elim
  | exc x μ1 => rw [e1] at k; exact k
  | val d μ1 =>
    rw [e1] at k
    simp only [bind_val] at k
    intro v H1 R1
    split at k
    · rename_i xs
      obtain ⟨S, ad, c, rv⟩ := R1.one
      cases rv with
      | lst hs rr =>
        rename_i a vs
        exact ⟨a, rfl, ⟨vs, .of (c.sh _ _ hs)⟩, k _ [(.ref a, .lst xs)] _ R1 jw_list⟩
    · rename_i ns
      obtain ⟨S, ad, c, rv⟩ := R1.one
      cases rv with
      | scr hs =>
        rename_i a
        exact ⟨a, rfl, ⟨_, c.sh.seq hs⟩, k _ [(.ref a, .scr ns)] _ R1 jw_scr⟩
    · exact k.elim
theorem di_tup (he : DE X W iter fe) : DI X W tg iter (iTupl fe) := by
  obtain ⟨t, p1, q1⟩ := he
  refine ⟨_, pi_tup p1, ⟨fun {H0 S0 ad0 tmp ρ μ σ H R} r k => ?_⟩⟩
  refine q1.run r ?_
  unfold iTupl at k
  cases e1 : fe ρ μ with
  | fail => rw [e1] at k; exact k.elim
  | exc x μ1 => rw [e1] at k; exact k
  | val d μ1 =>
    rw [e1] at k
    simp only [bind_val] at k
    intro v H1 R1
    split at k
    · rename_i xs
      obtain ⟨S, ad, c, rv⟩ := R1.one
      cases rv with
      | tup hs rr =>
        rename_i a vs
        exact ⟨a, rfl, ⟨vs, .of (c.sh _ _ hs)⟩, k _ [(.ref a, .tup xs)] _ R1 jw_tup⟩
    · exact k.elim
/-- a list, the script, a tuple, a text sign by sign -/
@[simp] def iAny (f : EF) : AF := fun ρ μ => (f ρ μ).bind fun d μ1 => match d with
  | .lst xs => .val xs μ1
  | .scr ns => .val (mapD D.int ns) μ1
  | .tup xs => .val xs μ1
  | _ => .fail
theorem pi_or {X : Cx} {tg l : Expr} {w1 w2 : TI} (h1 : PI X tg l w1) (h2 : PI X tg l w2) : PI X tg l (fun σ H R => w1 σ H R ∨ w2 σ H R) := ⟨fun pins s σ H R I h => by
  rcases h with h | h
  · exact h1.run pins s σ H R I h
  · exact h2.run pins s σ H R I h⟩
theorem di_any (he : DE X W iter fe) : DI X W tg iter (iAny fe) := by
  obtain ⟨t, p1, q1⟩ := he
  refine ⟨_, pi_or (pi_list p1) (pi_tup p1), ⟨fun {H0 S0 ad0 tmp ρ μ σ H R} r k => ?_⟩⟩
  unfold iAny at k
  cases e1 : fe ρ μ with
  | fail => rw [e1] at k; exact k.elim
  | exc x μ1 => rw [e1] at k; exact .inl (q1.run r (by rw [e1]; exact k))
  | val d μ1 =>
    rw [e1] at k
    simp only [bind_val] at k
    split at k
    · rename_i xs
      refine .inl (q1.run r ?_)
      rw [e1]
      intro v H1 R1
      obtain ⟨S, ad, c, rv⟩ := R1.one
      cases rv with
      | lst hs rr =>
        rename_i a vs
        exact ⟨a, rfl, ⟨vs, .of (c.sh _ _ hs)⟩, k _ [(.ref a, .lst xs)] _ R1 jw_list⟩
    · rename_i ns
      refine .inl (q1.run r ?_)
      rw [e1]
      intro v H1 R1
      obtain ⟨S, ad, c, rv⟩ := R1.one
      cases rv with
      | scr hs =>
        rename_i a
        exact ⟨a, rfl, ⟨_, c.sh.seq hs⟩, k _ [(.ref a, .scr ns)] _ R1 jw_scr⟩
    · rename_i xs
      refine .inr (q1.run r ?_)
      rw [e1]
      intro v H1 R1
      obtain ⟨S, ad, c, rv⟩ := R1.one
      cases rv with
      | tup hs rr =>
        rename_i a vs
        exact ⟨a, rfl, ⟨vs, .of (c.sh _ _ hs)⟩, k _ [(.ref a, .tup xs)] _ R1 jw_tup⟩
    · exact k.elim
end
end
end Dn

/-! Dn5: comprehensions, stores into lists, defs and their calls. -/
namespace Dn
open PySem PySem.Spec PyProof.Rows L2

/-! ### the canonical reading: one for all contexts -/
def canE (K : PySem.W.Frag) (W : WX) (f : EF) : TE := fun σ H Q => ∃ (H0 S0 : Hp) (ad0 : Ad) (tmp : List (V × D)) (ρ : Ro) (μ : Mu), Rel K H0 S0 ad0 tmp ρ μ σ H ∧ PostE K W H0 S0 ad0 tmp ρ σ Q (f ρ μ)
def canT (K : PySem.W.Frag) (W : WX) (f : TF) : TT := fun σ H Q => ∃ (H0 S0 : Hp) (ad0 : Ad) (tmp : List (V × D)) (ρ : Ro) (μ : Mu), Rel K H0 S0 ad0 tmp ρ μ σ H ∧ PostT K W H0 S0 ad0 tmp ρ σ Q (f ρ μ)
theorem simE_can {K : PySem.W.Frag} {W : WX} {f : EF} : SimE K W (canE K W f) f := ⟨fun R h => ⟨_, _, _, _, _, _, R, h⟩⟩
theorem simT_can {K : PySem.W.Frag} {W : WX} {f : TF} : SimT K W (canT K W f) f := ⟨fun R h => ⟨_, _, _, _, _, _, R, h⟩⟩
section
variable {X : Cx} {W : WX} {e c : Expr} {f : EF} {ft : TF}
theorem DE.can (h : DE X W e f) : PE X e (canE X.K W f) := by
  obtain ⟨t, p, q⟩ := h
  exact ⟨fun pins s σ H Q I ⟨_, _, _, _, _, _, R, k⟩ => p.run pins s σ H Q I (q.run R k)⟩
theorem DT.can (h : DT X W e ft) : PT X e (canT X.K W ft) := by
  obtain ⟨t, p, q⟩ := h
  exact ⟨fun pins s σ H Q I ⟨_, _, _, _, _, _, R, k⟩ => p.run pins s σ H Q I (q.run R k)⟩
def DTs (X : Cx) (W : WX) (ifs : List Expr) (f : TF) : Prop := ∃ t, PTs X ifs t ∧ SimT X.K W t f
@[simp] def tfYes : TF := fun _ μ => .val true μ
theorem dts_nil : DTs X W [] tfYes := ⟨_, pts_nil, ⟨fun R h => h _ R⟩⟩
theorem dts_one (h : DT X W c ft) : DTs X W [c] ft := let ⟨_, p, q⟩ := h; ⟨_, pts_one p, q⟩
theorem DTs.can {ifs : List Expr} (h : DTs X W ifs ft) : PTs X ifs (canT X.K W ft) := by
  obtain ⟨t, p, q⟩ := h
  exact ⟨fun pins s σ H Q I ⟨_, _, _, _, _, _, R, k⟩ => p.run pins s σ H Q I (q.run R k)⟩
end
/-! ### comprehensions -/
@[simp] def wipeR (ρ : Ro) : List Nat → Ro
  | [] => ρ
  | v :: vs => (wipeR ρ vs).set v none
theorem wipe_set {σ : L2.St} {i : Nat} {x : Option V} : ∀ {vs : List Nat}, i ∈ vs → wipe (σ.set i x) vs = wipe σ vs
  | [], h => by simp at h
  | v :: vs, h => by
    show (wipe (σ.set i x) vs).set v none = (wipe σ vs).set v none
    by_cases hi : i ∈ vs
    · rw [wipe_set hi]
    · have e : i = v := by
        rcases List.mem_cons.mp h with h | h
        · exact h
        · exact absurd h hi
      subst e
      have : ∀ ws : List Nat, i ∉ ws → wipe (σ.set i x) ws = (wipe σ ws).set i x := by
        intro ws
        induction ws with
        | nil => intro _; rfl
        | cons w ws ih =>
          intro hn
          show (wipe (σ.set i x) ws).set w none = ((wipe σ ws).set w none).set i x
          rw [ih (fun m => hn (List.mem_cons_of_mem _ m)), List.set_comm _ _ (fun z => hn (by rw [z]; exact List.mem_cons_self))]
      rw [this vs hi, List.set_set]
theorem wipe_mem_none {σ : L2.St} : ∀ {vs : List Nat} {i : Nat}, i ∈ vs → (wipe σ vs).set i none = wipe σ vs
  | [], _, h => by simp at h
  | v :: vs, i, h => by
    show ((wipe σ vs).set v none).set i none = (wipe σ vs).set v none
    by_cases e : i = v
    · subst e; rw [List.set_set]
    · have hi : i ∈ vs := by
        rcases List.mem_cons.mp h with h | h
        · exact absurd h e
        · exact h
      rw [List.set_comm _ _ (fun z => e z.symm), wipe_mem_none hi]
theorem wipe_wipe {σ : L2.St} (vs : List Nat) : wipe (wipe σ vs) vs = wipe σ vs := by
  have : ∀ ws : List Nat, (∀ i ∈ ws, i ∈ vs) → wipe (wipe σ vs) ws = wipe σ vs := by
    intro ws
    induction ws with
    | nil => intro _; rfl
    | cons w ws ih =>
      intro h
      show (wipe (wipe σ vs) ws).set w none = wipe σ vs
      rw [ih fun i m => h i (List.mem_cons_of_mem _ m), wipe_mem_none (h w List.mem_cons_self)]
  exact this vs fun _ m => m
section
variable {K : PySem.W.Frag} {W : WX} {H0 S0 : Hp} {ad0 : Ad} {S : Hp} {ad : Ad} {tmp : List (V × D)} {ρ : Ro} {μ : Mu} {σ : L2.St} {H : Hp}
theorem Core.wipe (c : Core K H0 S0 ad0 S ad tmp ρ μ σ H) : ∀ vs : List Nat, Core K H0 S0 ad0 S ad tmp (wipeR ρ vs) μ (L2.wipe σ vs) H
  | [] => c
  | v :: vs => (Core.wipe c vs).unset v
/-- a thing that is nobody's changes -/
theorem Core.free {p : Addr} {o : HO} (c : Core K H0 S0 ad0 S ad tmp ρ μ σ H) (h1 : p ∉ ad) (h2 : S p = none) (h3 : H0 p = none) : Core K H0 S0 ad0 S ad tmp ρ μ σ (upd H p o) := by
  refine { c with kp := fun b u e n => ?_, sh := fun b u e => ?_, at_ := fun n a x e1 e2 => ?_ }
  · rw [upd_ne (ne_of_none e h3)]; exact c.kp b u e n
  · rw [upd_ne (ne_of_none e h2)]; exact c.sh b u e
  · have hne : a ≠ p := fun z => h1 (by rw [← z]; exact List.mem_of_getElem? e1)
    exact (c.at_ n a x e1 e2).mono (Same.refl S) adp_refl fun o e => by rw [upd_ne hne]; exact e
/-- it is done: from now on it stays -/
theorem Core.adopt {p : Addr} {o : HO} (c : Core K H0 S0 ad0 S ad tmp ρ μ σ H) (h0 : H p = some o) (h1 : p ∉ ad) (h2 : S p = none) (h3 : H0 p = none) : Core K H0 S0 ad0 (upd S p o) ad tmp ρ μ σ H := by
  have e : Same S (upd S p o) := same_new h2
  refine { c with s0 := fun b u e1 => e b u (c.s0 b u e1), sn := fun b u e1 => ?_, sh := fun b u e1 => ?_, as := fun a m => ?_, at_ := fun n a x e1 e2 => (c.at_ n a x e1 e2).mono e adp_refl fun _ z => z, sl := fun i d hd => ?_, tm := fun q m => (c.tm q m).mono e adp_refl }
  · by_cases hb : b = p
    · subst hb; exact .inr (.inl h3)
    · rw [upd_ne hb] at e1; exact c.sn b u e1
  · by_cases hb : b = p
    · subst hb; rw [upd_same] at e1; rw [h0]; exact e1
    · rw [upd_ne hb] at e1; exact c.sh b u e1
  · rw [upd_ne (fun z => h1 (by rw [← z]; exact m))]; exact c.as a m
  · obtain ⟨v, g1, g2⟩ := c.sl i d hd
    exact ⟨v, g1, g2.mono e adp_refl⟩
theorem Core.adoptCell {p : Addr} {x : Nd} (c : Core K H0 S0 ad0 S ad tmp ρ μ σ H) (hx : NdAt K S ad H p x) (h1 : p ∉ ad) (h2 : S p = none) (h3 : H0 p = none) : Core K H0 S0 ad0 S (ad ++ [p]) tmp ρ (μ ++ [x]) σ H := by
  refine ⟨fun b u e1 e2 => c.kp b u e1 fun m => e2 (List.mem_append_left _ m), c.s0, c.sn, c.sh, ?_, fun a m => ?_, ?_, ?_, fun n a y g1 g2 => ?_, c.ln, fun i d hd => ?_, fun q m => (c.tm q m).mono (Same.refl S) adp_more⟩
  · obtain ⟨more, e, k⟩ := c.a0
    refine ⟨more ++ [p], by rw [e, List.append_assoc], fun a m => ?_⟩
    rcases List.mem_append.mp m with m | m
    · exact k a m
    · cases List.mem_singleton.mp m; exact h3
  · rcases List.mem_append.mp m with m | m
    · exact c.as a m
    · cases List.mem_singleton.mp m; exact h2
  · exact List.nodup_append.mpr ⟨c.nd, by simp, fun a m b m' => by cases List.mem_singleton.mp m'; exact fun z => h1 (by rw [← z]; exact m)⟩
  · rw [List.length_append, List.length_append, c.al] <;> rfl
  · by_cases hn : n < ad.length
    · rw [List.getElem?_append_left hn] at g1
      rw [List.getElem?_append_left (by rw [← c.al]; exact hn)] at g2
      exact (c.at_ n a y g1 g2).mono (Same.refl S) adp_more fun _ z => z
    · have e1 : n = ad.length := by
        have := (List.getElem?_eq_some_iff.mp g1).1
        rw [List.length_append] at this
        have : n < ad.length + 1 := this
        omega
      subst e1
      rw [List.getElem?_append_right (Nat.le_refl _)] at g1
      rw [List.getElem?_append_right (by rw [c.al]; exact Nat.le_refl _)] at g2
      rw [c.al] at g2
      simp at g1 g2
      subst g1; subst g2
      exact hx.mono (Same.refl S) adp_more fun _ z => z
  · obtain ⟨v, g1, g2⟩ := c.sl i d hd
    exact ⟨v, g1, g2.mono (Same.refl S) adp_more⟩
end
/-- the target of a comprehension: it stores in the slots vs alone -/
structure SimW (K : PySem.W.Frag) (vs : List Nat) (t : TG) (g : GT) : Prop where
  run : ∀ {H0 S0 : Hp} {ad0 : Ad} {tmp : List (V × D)} {ρ : Ro} {μ : Mu} {σ : L2.St} {H : Hp} {Q : L2.St → Hp → Prop} {v : V} {d : D} {ρ' : Ro} {μ' : Mu}, Rel K H0 S0 ad0 ((v, d) :: tmp) ρ μ σ H → g d ρ μ = some (ρ', μ') →
    (∀ σ' H', Rel K H0 S0 ad0 tmp ρ' μ' σ' H' → L2.wipe σ' vs = L2.wipe σ vs → Q σ' H') → t v σ H Q
structure SimWs (K : PySem.W.Frag) (vs : List Nat) (t : TGs) (g : GTs) : Prop where
  run : ∀ {H0 S0 : Hp} {ad0 : Ad} {tmp : List (V × D)} {ρ : Ro} {μ : Mu} {σ : L2.St} {H : Hp} {Q : L2.St → Hp → Prop} {xs : List V} {ds : List D} {ρ' : Ro} {μ' : Mu}, xs.length = ds.length → Rel K H0 S0 ad0 (xs.zip ds ++ tmp) ρ μ σ H → g ds ρ μ = some (ρ', μ') →
    (∀ σ' H', Rel K H0 S0 ad0 tmp ρ' μ' σ' H' → L2.wipe σ' vs = L2.wipe σ vs → Q σ' H') → t xs σ H Q
section
variable {K : PySem.W.Frag} {vs : List Nat}
theorem simW_n (i : Nat) (h : i ∈ vs) : SimW K vs (gName i) (gN i) := ⟨fun {H0 S0 ad0 tmp ρ μ σ H Q v d ρ' μ'} R e k => by
  cases e
  obtain ⟨S, ad, c, r⟩ := R.one
  exact k _ _ ⟨S, ad, c.setv r i⟩ (wipe_set h)⟩
theorem simWs_nil : SimWs K vs gNil gN0 := ⟨fun {H0 S0 ad0 tmp ρ μ σ H Q xs ds ρ' μ'} hl R e h => by
  cases ds with
  | nil =>
    cases e
    cases xs with
    | nil => exact ⟨rfl, h _ _ R rfl⟩
    | cons _ _ => simp at hl
  | cons _ _ => cases e⟩
theorem simWs_cons {t : TG} {u : TGs} {g : GT} {h : GTs} (ht : SimW K vs t g) (hu : SimWs K vs u h) : SimWs K vs (gCons t u) (gC g h) := ⟨fun {H0 S0 ad0 tmp ρ μ σ H Q xs ds ρ' μ'} hl R e k => by
  cases ds with
  | nil => cases e
  | cons d ds =>
    cases xs with
    | nil => simp at hl
    | cons x xs =>
      have e : ((g d ρ μ).bind fun p => h ds p.1 p.2) = some (ρ', μ') := e
      cases e1 : g d ρ μ with
      | none => rw [e1] at e; cases e
      | some p =>
        rw [e1] at e
        refine ⟨x, xs, rfl, ht.run (tmp := xs.zip ds ++ tmp) R (by rw [e1]) fun σ1 H1 R1 w1 => ?_⟩
        exact hu.run (by simpa using hl) R1 e fun σ2 H2 R2 w2 => k _ _ R2 (w2.trans w1)⟩
theorem simW_tup {u : TGs} {g : GTs} {n : Nat} (hu : SimWs K vs u g) : SimW K vs (gTup K n u) (gTp n g) := ⟨fun {H0 S0 ad0 tmp ρ μ σ H Q v d ρ' μ'} R e h => by
  obtain ⟨S, ad, c, r⟩ := R.one
  cases d <;> first | cases e | skip
  rename_i ds
  have e : (if ds.length = n then g ds ρ μ else none) = some (ρ', μ') := e
  split at e
  · rename_i hn
    cases r with
    | tup hs r =>
      refine ⟨_, _, rfl, .inl (.inl (c.sh _ _ hs)), by rw [r.length]; exact hn, hu.run r.length ⟨S, ad, c.tmps fun p m => ?_⟩ e h⟩
      rcases List.mem_append.mp m with m | m
      · exact zip_rpL r p m
      · exact c.tm p m
  · cases e⟩
end
/-- the one reading of such a target -/
def canW (K : PySem.W.Frag) (vs : List Nat) (g : GT) : TG := fun v σ H Q => ∃ (H0 S0 : Hp) (ad0 : Ad) (tmp : List (V × D)) (ρ : Ro) (μ : Mu) (d : D) (ρ' : Ro) (μ' : Mu), Rel K H0 S0 ad0 ((v, d) :: tmp) ρ μ σ H ∧ g d ρ μ = some (ρ', μ') ∧
  ∀ σ' H', Rel K H0 S0 ad0 tmp ρ' μ' σ' H' → L2.wipe σ' vs = L2.wipe σ vs → Q σ' H'
theorem simW_can {K : PySem.W.Frag} {vs : List Nat} {g : GT} : SimW K vs (canW K vs g) g := ⟨fun R e k => ⟨_, _, _, _, _, _, _, _, _, R, e, k⟩⟩
def DW1 (X : Cx) (vs : List Nat) (tg : Expr) (g : GT) : Prop := ∃ t, PG X tg t ∧ SimW X.K vs t g
def DW2 (X : Cx) (vs : List Nat) (ts : List Expr) (g : GTs) : Prop := ∃ t, PGs X ts t ∧ SimWs X.K vs t g
theorem DW1.can {X : Cx} {vs : List Nat} {tg : Expr} {g : GT} (h : DW1 X vs tg g) : PG X tg (canW X.K vs g) := by
  obtain ⟨t, p, q⟩ := h
  exact ⟨fun pins s σ H v u Q I r ⟨_, _, _, _, _, _, _, _, _, R, e, k⟩ => p.run pins s σ H v u Q I r (q.run R e k)⟩
theorem dw1_n {X : Cx} {vs : List Nat} (i : Nat) {x : Str} {pos : Pos} (hN : X.N.Nodup) (h : i ∈ vs := by decide) (hi : X.N[i]? = some x := by rfl) (hx : Loc X.env.scope x := by first | exact Or.inl rfl | exact Or.inr rfl) (hf : X.fn x = true ∨ X.env.scope.names.lookup x = some .local := by first | exact .inl rfl | exact .inr rfl | assumption) :
    DW1 X vs (.Name x pos) (gN i) := ⟨_, pg_name hN hi hx hf, simW_n i h⟩
theorem dw2_nil {X : Cx} {vs : List Nat} : DW2 X vs [] gN0 := ⟨_, pgs_nil, simWs_nil⟩
theorem dw2_cons {X : Cx} {vs : List Nat} {e : Expr} {es : List Expr} {g : GT} {gs : GTs} (h1 : DW1 X vs e g) (h2 : DW2 X vs es gs) (hs : (assignEach (e :: es) X.env).map (·.2) = assign e X.env :: (assignEach es X.env).map (·.2) := by rfl) : DW2 X vs (e :: es) (gC g gs) := let ⟨_, p1, q1⟩ := h1; let ⟨_, p2, q2⟩ := h2; ⟨_, pgs_cons p1 p2 hs, simWs_cons q1 q2⟩
theorem dw1_tup {X : Cx} {vs : List Nat} {es : List Expr} {gs : GTs} {pos : Pos} {k : Nat} (n : Nat) (hc : X.calm = true) (h : DW2 X vs es gs) (hn : (assignEach es X.env).length = n := by rfl) (hst : (assignEach es X.env).findIdx? (·.1) = none := by rfl) : DW1 X vs (.Tuple es k pos) (gTp n gs) := by
  obtain ⟨_, p1, q1⟩ := h
  exact ⟨_, pg_tup hc p1 hn hst, simW_tup q1⟩
/-- the items that a comprehension makes -/
def compL (g : GT) (tt : TF) (te : EF) (ρ : Ro) : List D → Mu → List D → Res (List D)
  | [], μ, acc => .val acc μ
  | d :: ds, μ, acc => match g d ρ μ with
    | none => .fail
    | some p => match tt p.1 p.2 with
      | .val true μ3 => (match te p.1 μ3 with
        | .val y μ4 => compL g tt te ρ ds μ4 (acc ++ [y])
        | _ => .fail)
      | .val false μ3 => compL g tt te ρ ds μ3 acc
      | _ => .fail
@[simp] def eLcG (fin : List D → Mu → Res D) (fi : AF) (g : GT) (tt : TF) (te : EF) (vs : List Nat) : EF := fun ρ μ => (fi ρ μ).bind fun ds μ1 => if ds.length ≤ 50000 then (compL g tt te (wipeR ρ vs) ds μ1 []).bind fin else .fail
/-- as a value, as a cell -/
abbrev eLc : AF → GT → TF → EF → List Nat → EF := eLcG fun xs μ => .val (.lst xs) μ
abbrev eLcN : AF → GT → TF → EF → List Nat → EF := eLcG fun xs μ => .val (.ref μ.length) (μ ++ [.lst xs])
abbrev W0 : WX := fun _ _ _ _ => False
section
variable {K : PySem.W.Frag} {W : WX}
def FinOk (K : PySem.W.Frag) (W : WX) (fin : List D → Mu → Res D) : Prop := ∀ {H0 S0 : Hp} {ad0 : Ad} {S : Hp} {ad : Ad} {tmp : List (V × D)} {ρ : Ro} {μ : Mu} {σ : L2.St} {H : Hp} {Q : VK} {p : Addr} {vs : List V} {xs : List D},
  Core K H0 S0 ad0 S ad tmp ρ μ σ H → H p = some (.lst vs) → RpL K S ad vs xs → p ∉ ad → S p = none → H0 p = none → PostE K W H0 S0 ad0 tmp ρ σ Q (fin xs μ) → Q (.ref p) H
theorem fin_lc : FinOk K W (fun xs μ => .val (.lst xs) μ) := fun c h r h1 h2 h3 k => k _ _ ⟨_, _, (c.adopt h h1 h2 h3).push (.lst upd_same (r.mono (same_new h2) adp_refl))⟩
theorem fin_lcN : FinOk K W (fun xs μ => .val (.ref μ.length) (μ ++ [.lst xs])) := fun c h r h1 h2 h3 k =>
  k _ _ ⟨_, _, (c.adoptCell (x := .lst _) ⟨_, h, r⟩ h1 h2 h3).push (.ref (by rw [← c.al, List.getElem?_append_right (Nat.le_refl _)]; simp))⟩
theorem simE_lc {fin : List D → Mu → Res D} (hf : FinOk K W fin) {wi : TI} {fi : AF} {t : TG} {g : GT} {tt : TT} {ft : TF} {te : TE} {fe : EF} {vs : List Nat} (hi : SimI K W wi fi) (hg : SimW K vs t g) (ht : SimT K W0 tt ft) (he : SimE K W0 te fe) :
    SimE K W (tLc wi t tt te vs) (eLcG fin fi g ft fe vs) := ⟨fun {H0 S0 ad0 tmp ρ μ σ H Q} R k => by
  refine hi.run R ?_
  unfold eLcG at k
  cases e1 : fi ρ μ with
  | fail => rw [e1] at k; exact k.elim
  | exc x μ1 => rw [e1] at k; exact k
  | val ds μ1 =>
    rw [e1] at k
    simp only [bind_val] at k
    intro J tl H1 R1 jw D hD
    split at k
    · rename_i hz
      obtain ⟨S1, ad1, c1⟩ := R1
      obtain ⟨f1, f2, f3⟩ := c1.fresh hD
      refine ⟨fun i m H => m = ds.length - i ∧ i ≤ ds.length ∧ ∃ (S : Hp) (ad : Ad) (μ : Mu) (vsA : List V) (acc : List Dn.D), Core K H0 S0 ad0 S ad (tl ++ tmp) ρ μ σ H ∧ H D = some (.lst vsA) ∧ RpL K S ad vsA acc ∧ D ∉ ad ∧ S D = none ∧ acc.length ≤ i ∧
          PostE K W H0 S0 ad0 tmp ρ σ Q ((compL g ft fe (wipeR ρ vs) (ds.drop i) μ acc).bind fin),
        ⟨ds.length, by simp, Nat.zero_le _, S1, ad1, μ1, [], [], c1.free f2 f1 f3, upd_same, .nil, f2, f1, Nat.le_refl _, k⟩, ?_⟩
      rintro i m H ⟨rfl, hi, S, ad, μ, vsA, acc, c, hDa, ra, na, ns, hacc, k⟩
      have here := (c.here).wipe vs
      obtain ⟨j1, j2⟩ := jw ⟨S, ad, c⟩ i
      by_cases hlt : i < ds.length
      · obtain ⟨jw1, _⟩ := jw ⟨S, ad, here⟩ i
        obtain ⟨go, yl⟩ := jw1 ds[i] (List.getElem?_eq_getElem hlt)
        refine .inr ⟨go, fun H' => ∃ (S : Hp) (ad : Ad) (μ : Mu) (vsA : List V) (acc : List Dn.D), Core K H0 S0 ad0 S ad (tl ++ tmp) ρ μ σ H' ∧ H' D = some (.lst vsA) ∧ RpL K S ad vsA acc ∧ D ∉ ad ∧ S D = none ∧ acc.length ≤ i + 1 ∧
          PostE K W H0 S0 ad0 tmp ρ σ Q ((compL g ft fe (wipeR ρ vs) (ds.drop (i + 1)) μ acc).bind fin), fun H' ⟨S', ad', μ', vs', acc', q1, q2, q3, q4, q5, q6, q7⟩ => ⟨ds.length - (i + 1), by omega, rfl, hlt, S', ad', μ', vs', acc', q1, q2, q3, q4, q5, q6, q7⟩, fun x H' y => ?_⟩
        have R2 := yl x H' y
        -- what stood at D stands behind all that a turn does
        have stays : ∀ {S4 : Hp} {ad4 : Ad} {tmp4 : List (V × Dn.D)} {ρ4 : Ro} {μ4 : Mu} {σ4 : L2.St} {H4 : Hp}, Core K H S ad S4 ad4 tmp4 ρ4 μ4 σ4 H4 → H4 D = some (.lst vsA) ∧ D ∉ ad4 ∧ S4 D = none := fun {S4 ad4 tmp4 ρ4 μ4 σ4 H4} c4 => by
          have n4 : D ∉ ad4 := fun m => by
            obtain ⟨more, e, q⟩ := c4.a0
            rw [e] at m
            rcases List.mem_append.mp m with m | m
            · exact na m
            · rw [q D m] at hDa; cases hDa
          refine ⟨c4.kp D _ hDa n4, n4, ?_⟩
          cases e : S4 D with
          | none => rfl
          | some o =>
            rcases c4.sn D o e with z | z | ⟨xs, z⟩
            · rw [ns] at z; cases z
            · rw [hDa] at z; cases z
            · rw [hDa] at z; cases z
        rw [List.drop_eq_getElem_cons hlt] at k
        unfold compL at k
        cases e2 : g ds[i] (wipeR ρ vs) μ with
        | none => rw [e2] at k; exact k.elim
        | some p =>
          rw [e2] at k
          simp only at k
          refine hg.run R2 e2 fun σ2 H2 R2 w2 => ⟨w2.trans (wipe_wipe vs), ht.run R2 ?_⟩
          cases e3 : ft p.1 p.2 with
          | fail => rw [e3] at k; exact k.elim
          | exc x μ1 => rw [e3] at k; exact k.elim
          | val b μ3 =>
            rw [e3] at k
            intro H3 R3
            cases b with
            | false =>
              refine iteF ?_
              obtain ⟨S3, ad3, c3⟩ := R3
              obtain ⟨d1, d2, d3⟩ := stays c3
              exact ⟨S3, ad3, μ3, vsA, acc, (c.keep c3).tmps fun q m => (c.keep c3).tm q (List.mem_append_right _ m), d1, ra.mono c3.s0 c3.adp, d2, d3, by omega, k⟩
            | true =>
              simp only at k
              refine iteT (he.run R3 ?_)
              cases e4 : fe p.1 μ3 with
              | fail => rw [e4] at k; exact k.elim
              | exc x μ1 => rw [e4] at k; exact k.elim
              | val y μ4 =>
                rw [e4] at k
                intro v H4 R4
                obtain ⟨S4, ad4, c4⟩ := R4
                obtain ⟨d1, d2, d3⟩ := stays c4
                have ra4 := ra.mono c4.s0 c4.adp
                refine ⟨vsA, d1, sz_lt (by rw [ra.length]; omega), S4, ad4, μ4, vsA ++ [v], acc ++ [y], ((c.keep c4).tmps fun q m => (c.keep c4).tm q (List.mem_append_right _ m)).free d2 d3 f3, upd_same, ra4.append (.cons c4.hd .nil), d2, d3, by rw [List.length_append]; show acc.length + 1 ≤ i + 1; omega, k⟩
      · have e : i = ds.length := by omega
        subst e
        rw [List.drop_length] at k
        refine .inl ⟨j2 (Nat.le_refl _), hf (c.tmps fun q m => c.tm q (List.mem_append_right _ m)) hDa ra na ns f3 k⟩
    · exact k.elim⟩
end
section
variable {X : Cx} {W : WX} {elt tg iter : Expr} {ifs : List Expr} {scope : Scope} {own : List (Str × Nat)} {pos spos py : Pos} {fi : AF} {g : GT} {ft : TF} {fe : EF} {fin : List D → Mu → Res D}
theorem de_lcG (hfin : FinOk X.K W fin) (hc : X.calm = true) (hN : X.N.Nodup) (hi : DI X W tg iter fi) (ok : BlkOk X.N X.env.scope scope own)
    (hg : ∀ (s : Shared) (H : Hp) (C : Addr) (cl : List (Str × Addr)) (fp : List Addr), DW1 (X.blk s H scope (compEnvC scope cl C X.env) fp) (own.map (·.2)) tg g) (ht : ∀ (s : Shared) (H : Hp) (C : Addr) (cl : List (Str × Addr)) (fp : List Addr), DTs (X.blk s H scope (compEnvC scope cl C X.env) fp) W0 ifs ft)
    (he : ∀ (s : Shared) (H : Hp) (C : Addr) (cl : List (Str × Addr)) (fp : List Addr), DE (X.blk s H scope (compEnvC scope cl C X.env) fp) W0 elt fe) (hs : ∀ x, foldedSetIterable iter X.env x = pure x := by intro _; rfl) :
    DE X W (.ListComp elt [⟨tg, iter, ifs, 0⟩] scope pos) (eLcG fin fi g ft fe (own.map (·.2))) := by
  obtain ⟨_, p1, q1⟩ := hi
  exact ⟨_, pe_lc hc hN p1 ok (fun s H C cl fp => (hg s H C cl fp).can) (fun s H C cl fp => (ht s H C cl fp).can) (fun s H C cl fp => (he s H C cl fp).can) hs, simE_lc hfin q1 simW_can simT_can simE_can⟩
theorem ds_lcG (i : Nat) {y : Str} (hfin : FinOk X.K W fin) (hc : X.calm = true) (hN : X.N.Nodup) (hi : DI X W tg iter fi) (ok : BlkOk X.N X.env.scope scope own)
    (hg : ∀ (s : Shared) (H : Hp) (C : Addr) (cl : List (Str × Addr)) (fp : List Addr), DW1 (X.blk s H scope (compEnvC scope cl C X.env) fp) (own.map (·.2)) tg g) (ht : ∀ (s : Shared) (H : Hp) (C : Addr) (cl : List (Str × Addr)) (fp : List Addr), DTs (X.blk s H scope (compEnvC scope cl C X.env) fp) W0 ifs ft)
    (he : ∀ (s : Shared) (H : Hp) (C : Addr) (cl : List (Str × Addr)) (fp : List Addr), DE (X.blk s H scope (compEnvC scope cl C X.env) fp) W0 elt fe)
    (hy : X.N[i]? = some y := by rfl) (hyl : X.env.scope.names.lookup y = some .local := by rfl)
    (hsw : swapsWith (.ListComp elt [⟨tg, iter, ifs, 0⟩] scope pos) (some (.Name y py)) spos.line X.env = pure true := by exact sw_true rfl rfl rfl (by decide +kernel)) (hs : ∀ x, foldedSetIterable iter X.env x = pure x := by intro _; rfl) :
    DS X W (.Assign [.Name y py] (.ListComp elt [⟨tg, iter, ifs, 0⟩] scope pos) spos) (sAsg i (eLcG fin fi g ft fe (own.map (·.2)))) := by
  obtain ⟨_, p1, q1⟩ := hi
  exact ⟨_, ps_setLc hc hN hy hyl hsw p1 ok (fun s H C cl fp => (hg s H C cl fp).can) (fun s H C cl fp => (ht s H C cl fp).can) (fun s H C cl fp => (he s H C cl fp).can) hs, simS_asg (simE_lc hfin q1 simW_can simT_can simE_can) (simG_n i)⟩
end
/-! ### xs[i] = e, a cell -/
@[simp] def gSetIx (o i : EF) : GT := fun d ρ μ => match o ρ μ with
  | .val (.ref n) μ1 => (match i ρ μ1 with
    | .val (.int k) μ2 => (match μ2[n]? with
      | some (.lst xs) => (match ixN xs.length k with
        | some j => some (ρ, μ2.set n (.lst (xs.set j d)))
        | none => none)
      | _ => none)
    | _ => none)
  | _ => none
section
variable {K : PySem.W.Frag} {W : WX}
theorem simG_setIx {to ti : TE} {fo fi : EF} (ho : SimE K W0 to fo) (hi : SimE K W0 ti fi) : SimG K (L2.gSub to ti rSetL) (gSetIx fo fi) := ⟨fun {H0 S0 ad0 tmp ρ μ σ H Q v d ρ' μ'} R e k => by
  refine ho.run R ?_
  unfold gSetIx at e
  split at e
  · rename_i n μ1 e1
    rw [e1]
    intro w H1 R1
    refine hi.run R1 ?_
    split at e
    · rename_i kk μ2 e2
      rw [e2]
      intro z H2 R2
      split at e
      · rename_i xs hm
        split at e
        · rename_i j hj
          cases e
          obtain ⟨S, ad, c⟩ := R2
          have r2 := c.hd
          have r1 := c.pop.hd
          have r0 := c.pop.pop.hd
          cases r2
          cases r1 with
          | ref ha =>
            rename_i a
            obtain ⟨vs, h1, h2⟩ := c.at_ n a _ ha hm
            exact ⟨a, vs, kk, j, rfl, rfl, h1, by rw [h2.length]; exact hj, k _ _ ⟨S, ad, wrLst (xs := xs) c.pop.pop.pop ha (h2.set r0 j)⟩⟩
        · cases e
      · cases e
    · cases e
  · cases e⟩
end
theorem dg_setIx {X : Cx} {o i : Expr} {fo fi : EF} {pos : Pos} (ho : DE X W0 o fo) (hi : DE X W0 i fi) (ha : ∀ v, assign (.Subscript o i pos) X.env v = (do
      let ov ← holding [v] (eval o X.env)
      let iv ← holding [v, ov] (eval i X.env)
      standAt pos
      holding [v, ov, iv] (setItem ov iv v)
      release [v, ov, iv] []) := by intro _; rfl) : DG X (.Subscript o i pos) (gSetIx fo fi) := let ⟨_, p1, q1⟩ := ho; let ⟨_, p2, q2⟩ := hi; ⟨_, pg_sub p1 p2 set_list ha, simG_setIx q1 q2⟩

/-! ### defs -/
def runF (n : Nat) (b : SF) : List D → Mu → Res D := fun ds μ => match b (ds.map some ++ List.replicate (n - ds.length) none) μ with
  | .ret d μ' => .val d μ'
  | .nx _ μ' => .val .non μ'
  | .exc x _ μ' => .exc x μ'
  | _ => .fail
/-- a def's promise: it does as F does; of one that lets nothing out -/
def PostN (K : PySem.W.Frag) (H0 S0 : Hp) (ad0 : Ad) (Q : VK) : Res D → Prop
  | .val d μ => ∀ v H, Rel K H0 S0 ad0 [(v, d)] [] μ [] H → Q v H
  | _ => False
def spN (K : PySem.W.Frag) (n : Nat) (F : List D → Mu → Res D) : Sp := fun vs H Q _ => ∃ (S : Hp) (ad : Ad) (μ : Mu) (ds : List D), vs.length = n ∧ ds.length = n ∧ Core K H S ad S ad (vs.zip ds) [] μ [] H ∧ PostN K H S ad Q (F ds μ)
section
variable {K : PySem.W.Frag} {H0 S0 : Hp} {ad0 : Ad} {S : Hp} {ad : Ad} {tmp : List (V × D)} {ρ : Ro} {μ : Mu} {σ : L2.St} {H : Hp}
theorem Core.noslots (c : Core K H0 S0 ad0 S ad tmp ρ μ σ H) : Core K H0 S0 ad0 S ad tmp [] μ [] H := { c with ln := rfl, sl := fun i d h => by simp at h }
theorem Rel.noslots (r : Rel K H0 S0 ad0 tmp ρ μ σ H) : Rel K H0 S0 ad0 tmp [] μ [] H := let ⟨S, ad, c⟩ := r; ⟨S, ad, c.noslots⟩
theorem Core.start {vs : List V} {ds : List D} {N : List Str} (hl : vs.length = ds.length) (hN : vs.length ≤ N.length) (c : Core K H0 S0 ad0 S ad (vs.zip ds) [] μ [] H) : Core K H0 S0 ad0 S ad [] (ds.map some ++ List.replicate (N.length - ds.length) none) μ (L2.start N vs) H := by
  have r : RpL K S ad vs ds := rpL_zip hl c.tm
  refine { c with ln := ?_, sl := fun i d h => ?_, tm := fun p m => by simp at m }
  · unfold L2.start
    rw [List.length_append, List.length_append, List.length_map, List.length_map, List.length_replicate, List.length_replicate, hl]
  · unfold L2.start
    by_cases hi : i < ds.length
    · rw [List.getElem?_append_left (by rw [List.length_map]; exact hi), List.getElem?_map] at h
      cases e : ds[i]? with
      | none => rw [e] at h; cases h
      | some d' =>
        rw [e] at h
        cases h
        obtain ⟨v, h1, h2⟩ := r.get e
        exact ⟨v, by rw [List.getElem?_append_left (by rw [List.length_map, hl]; exact hi), List.getElem?_map, h1]; rfl, h2⟩
    · rw [List.getElem?_append_right (by rw [List.length_map]; omega), List.getElem?_replicate] at h
      split at h <;> cases h
end
section
variable {P : Program} {w : World} {K : PySem.W.Frag} {mg : Str → Option Value} {base : Heap}
theorem fnN {x qual : Str} {st : Stmt} {f : Addr} {fd : FuncData} {N ps : List Str} {k : Nat} {b : SF} (F : Fun K x qual st f fd) (S : FnScope N ps (defScope st))
    (hb : ∀ (cdv : Value) (A : Around) (outer : List Env) (s : Shared) (H : Hp) (E : XK), Room k (A.deeper (envOfC qual (defScope st) s.heap.objs.size f cdv)) → DSs (cxOf CX0 P w K mg base N qual (defScope st) f cdv A outer s H E).nox W0 (defBody st) b) :
    FnOk P w K mg base CX0 (k + 1) f fd ps (spN K ps.length (runF N.length b)) := by
  refine F.ok S (fun vs H Q E h => ?_) (fun cdv A outer s H vs Q E hr h => ?_)
  · obtain ⟨_, _, _, _, h, _⟩ := h
    exact h
  · obtain ⟨S1, ad, μ, ds, hl, hd, c, k⟩ := h
    obtain ⟨t, p, q⟩ := hb cdv A outer s H E hr
    refine ⟨t, p, q.run ⟨S1, ad, c.start (N := N) (by rw [hl, hd]) (by
      have := congrArg List.length S.pre
      rw [List.length_take] at this
      omega)⟩ ?_⟩
    unfold runF at k
    cases e : b (ds.map some ++ List.replicate (N.length - ds.length) none) μ with
    | ret d μ' => rw [e] at k; exact fun v ρ σ H R => k v H R.noslots
    | nx ρ μ' => rw [e] at k; exact fun σ H R => k .non H (R.noslots.flat flat_non)
    | exc x ρ μ' => rw [e] at k; exact k.elim
    | bk ρ μ' => rw [e] at k; exact k.elim
    | ct ρ μ' => rw [e] at k; exact k.elim
    | fail => rw [e] at k; exact k.elim
end
/-! ### calls -/
mutual
@[simp] def nf : D → Bool
  | .ref _ => false
  | .exn .. => false
  | .tup xs => nfL xs
  | .lst xs => nfL xs
  | _ => true
@[simp] def nfL : List D → Bool
  | [] => true
  | x :: xs => nf x && nfL xs
end
mutual
@[simp] def fz (μ : Mu) : D → D
  | .ref n => (match μ[n]? with
    | some (.lst xs) => .lst xs
    | _ => .ref n)
  | .tup xs => .tup (fzL μ xs)
  | .lst xs => .lst (fzL μ xs)
  | d => d
@[simp] def fzL (μ : Mu) : List D → List D
  | [] => []
  | x :: xs => fz μ x :: fzL μ xs
end
section
variable {K : PySem.W.Frag} {S S' : Hp} {ad ad' : Ad}
mutual
theorem Rp.nofree (e : Same S S') : ∀ {d : D} {v : V}, Rp K S ad v d → nf d = true → Rp K S' ad' v d
  | .non, _, r, _ => by cases r; exact .non
  | .bl b, _, r, _ => by cases r; exact .bl b
  | .int i, _, r, _ => by cases r; exact .int i
  | .str s, _, r, _ => by cases r; exact .str s
  | .scr ns, _, r, _ => by cases r with | scr h => exact .scr (e.seq h)
  | .raw v, _, r, _ => by cases r; exact .raw v
  | .exn .., _, _, h => by simp [nf] at h
  | .ref n, _, _, h => by simp [nf] at h
  | .tup xs, _, r, h => by
    simp only [nf] at h
    cases r with | tup hs hr => exact .tup (e _ _ hs) (RpL.nofree e hr h)
  | .lst xs, _, r, h => by
    simp only [nf] at h
    cases r with | lst hs hr => exact .lst (e _ _ hs) (RpL.nofree e hr h)
theorem RpL.nofree (e : Same S S') : ∀ {ds : List D} {vs : List V}, RpL K S ad vs ds → nfL ds = true → RpL K S' ad' vs ds
  | [], _, r, _ => by cases r; exact .nil
  | d :: ds, _, r, h => by
    simp only [nfL, Bool.and_eq_true] at h
    cases r with | cons h1 h2 => exact .cons (Rp.nofree e h1 h.1) (RpL.nofree e h2 h.2)
end
end
section
variable {K : PySem.W.Frag} {H0 S0 : Hp} {ad0 : Ad} {S : Hp} {ad : Ad} {tmp : List (V × D)} {ρ : Ro} {μ : Mu} {σ : L2.St} {H : Hp} {S2 : Hp}
mutual
/-- a value whose lists are cells, where the cells stay from now on -/
theorem Rp.frozen (c : Core K H0 S0 ad0 S ad tmp ρ μ σ H) (e : Same S S2) (k : ∀ a ∈ ad, ∀ o, H a = some o → S2 a = some o) : ∀ {d : D} {v : V}, Rp K S ad v d → nf (fz μ d) = true → Rp K S2 [] v (fz μ d)
  | .non, _, r, _ => by cases r; simp only [fz]; exact .non
  | .bl b, _, r, _ => by cases r; simp only [fz]; exact .bl b
  | .int i, _, r, _ => by cases r; simp only [fz]; exact .int i
  | .str s, _, r, _ => by cases r; simp only [fz]; exact .str s
  | .scr ns, _, r, _ => by cases r with | scr h => simp only [fz]; exact .scr (e.seq h)
  | .raw v, _, r, _ => by cases r; simp only [fz]; exact .raw v
  | .exn .., _, _, h => by simp [fz, nf] at h
  | .ref n, _, r, h => by
    cases r with
    | ref ha =>
      simp only [fz] at h ⊢
      split at h
      · rename_i xs hm
        obtain ⟨vs, h1, h2⟩ := c.at_ n _ _ ha hm
        simp only [nf] at h
        exact .lst (k _ (List.mem_of_getElem? ha) _ h1) (h2.nofree e h)
      · simp [nf] at h
  | .tup xs, _, r, h => by
    simp only [fz, nf] at h ⊢
    cases r with | tup hs hr => exact .tup (e _ _ hs) (RpL.frozen c e k hr h)
  | .lst xs, _, r, h => by
    simp only [fz, nf] at h ⊢
    cases r with | lst hs hr => exact .lst (e _ _ hs) (RpL.frozen c e k hr h)
theorem RpL.frozen (c : Core K H0 S0 ad0 S ad tmp ρ μ σ H) (e : Same S S2) (k : ∀ a ∈ ad, ∀ o, H a = some o → S2 a = some o) : ∀ {ds : List D} {vs : List V}, RpL K S ad vs ds → nfL (fzL μ ds) = true → RpL K S2 [] vs (fzL μ ds)
  | [], _, r, _ => by cases r; exact .nil
  | d :: ds, _, r, h => by
    simp only [fzL, nfL, Bool.and_eq_true] at h ⊢
    cases r with | cons h1 h2 => exact .cons (Rp.frozen c e k h1 h.1) (RpL.frozen c e k h2 h.2)
end
/-- a call of a def with a memory of its own: what stood stands, what comes back is frozen -/
theorem Core.back {S2 : Hp} {ad2 : Ad} {μ2 : Mu} {H2 : Hp} {v : V} {d : D} (c : Core K H0 S0 ad0 S ad tmp ρ μ σ H) (c2 : Core K H S [] S2 ad2 [(v, d)] [] μ2 [] H2) (hn : nf (fz μ2 d) = true) : Rel K H0 S0 ad0 ((v, fz μ2 d) :: tmp) ρ μ σ H2 := by
  have new : ∀ a ∈ ad2, H a = none := by
    obtain ⟨more, e, k⟩ := c2.a0
    rw [e]
    simpa using k
  let S3 : Hp := fun b => if b ∈ ad2 then H2 b else S2 b
  have i3 : ∀ {b : Addr}, b ∈ ad2 → S3 b = H2 b := fun h => if_pos h
  have o3 : ∀ {b : Addr}, b ∉ ad2 → S3 b = S2 b := fun h => if_neg h
  have e2 : Same S2 S3 := fun b o e => by
    rw [o3 fun m => by rw [c2.as b m] at e; cases e]; exact e
  have e1 : Same S S3 := c2.s0.trans e2
  have live : ∀ {a : Addr}, a ∈ ad → a ∉ ad2 := fun m m2 => by
    obtain ⟨o, e⟩ := c.live m
    rw [new _ m2] at e; cases e
  have none3 : ∀ a ∈ ad, S3 a = none := fun a m => by
    rw [o3 (live m)]
    cases e : S2 a with
    | none => rfl
    | some o =>
      rcases c2.sn a o e with z | z | ⟨xs, z⟩
      · rw [c.as a m] at z; cases z
      · obtain ⟨u, q⟩ := c.live m
        rw [z] at q; cases q
      · exact (c.notup z m).elim
  refine ⟨S3, ad, { kp := fun b o e n => ?_, s0 := c.s0.trans e1, sn := fun b o e => ?_, sh := fun b o e => ?_, a0 := c.a0, as := none3, nd := c.nd, al := c.al, at_ := fun n a x h1 h2 => ?_, ln := c.ln, sl := fun i d h => ?_, tm := fun p m => ?_ }⟩
  · have q := c.kp b o e n
    exact c2.kp b o q fun m => by rw [new b m] at q; cases q
  · by_cases hb : b ∈ ad2
    · exact .inr (.inl (c.fresh (new b hb)).2.2)
    · rw [o3 hb] at e
      rcases c2.sn b o e with z | z | ⟨xs, z⟩
      · exact c.sn b o z
      · exact .inr (.inl (c.fresh z).2.2)
      · cases e0 : H0 b with
        | none => exact .inr (.inl rfl)
        | some u =>
          have q := c.kp b u e0 (c.notup z)
          rw [z] at q
          cases q
          exact .inr (.inr ⟨_, rfl⟩)
  · by_cases hb : b ∈ ad2
    · rw [i3 hb] at e; exact e
    · rw [o3 hb] at e; exact c2.sh b o e
  · have m := List.mem_of_getElem? h1
    exact (c.at_ n a x h1 h2).mono e1 adp_refl fun o e => c2.kp a o e (live m)
  · obtain ⟨u, h1, h2⟩ := c.sl i d h
    exact ⟨u, h1, h2.mono e1 adp_refl⟩
  · rcases List.mem_cons.mp m with m | m
    · subst m
      exact (Rp.frozen c2 e2 (fun a m o e => by rw [i3 m]; exact e) c2.hd hn).mono (Same.refl S3) fun n a h => by simp at h
    · exact (c.tm p m).mono e1 adp_refl
end
/-- f(..): arguments without cells, its own memory, its answer frozen -/
@[simp] def eCall (n : Nat) (F : List D → Mu → Res D) (fa : AF) : EF := fun ρ μ => (fa ρ μ).bind fun ds μ1 => if ds.length = n ∧ nfL ds = true then (match F ds [] with
  | .val d μ2 => if nf (fz μ2 d) = true then .val (fz μ2 d) μ1 else .fail
  | _ => .fail) else .fail
/-- f(..) that works in the caller's memory -/
@[simp] def eCallM (n : Nat) (F : List D → Mu → Res D) (fa : AF) : EF := fun ρ μ => (fa ρ μ).bind fun ds μ1 => if ds.length = n then (match F ds μ1 with
  | .val d μ2 => .val d μ2
  | _ => .fail) else .fail
section
variable {K : PySem.W.Frag} {W : WX}
theorem simE_call {n : Nat} {F : List D → Mu → Res D} {ta : TA} {fa : AF} (ha : SimA K W ta fa) : SimE K W (tCall (spN K n F) [] E0 ta) (eCall n F fa) := ⟨fun {H0 S0 ad0 tmp ρ μ σ H Q} R k => by
  refine ha.run R ?_
  unfold eCall at k
  cases e1 : fa ρ μ with
  | fail => rw [e1] at k; exact k.elim
  | exc x μ1 => rw [e1] at k; exact k
  | val ds μ1 =>
    rw [e1] at k
    simp only [bind_val] at k
    intro vs H1 hl R1
    split at k
    · rename_i hn
      obtain ⟨S, ad, c, r⟩ := R1.args hl
      rw [List.append_nil]
      refine ⟨S, [], [], ds, by rw [hl]; exact hn.1, hn.1, ⟨fun _ _ e _ => e, Same.refl S, fun _ _ e => .inl e, c.sh, ⟨[], rfl, by simp⟩, by simp, by simp, rfl, fun n a x h => by simp at h, rfl, fun i d h => by simp at h, zip_rpL (r.nofree (Same.refl S) hn.2)⟩, ?_⟩
      cases e2 : F ds [] with
      | fail => rw [e2] at k; exact k.elim
      | exc x μ2 => rw [e2] at k; exact k.elim
      | val d μ2 =>
        rw [e2] at k
        simp only at k
        split at k
        · rename_i hf
          rintro v H2 ⟨S2, ad2, c2⟩
          exact k v H2 (c.back c2 hf)
        · exact k.elim
    · exact k.elim⟩
theorem simE_callM {n : Nat} {F : List D → Mu → Res D} {ta : TA} {fa : AF} (ha : SimA K W ta fa) : SimE K W (tCall (spN K n F) [] E0 ta) (eCallM n F fa) := ⟨fun {H0 S0 ad0 tmp ρ μ σ H Q} R k => by
  refine ha.run R ?_
  unfold eCallM at k
  cases e1 : fa ρ μ with
  | fail => rw [e1] at k; exact k.elim
  | exc x μ1 => rw [e1] at k; exact k
  | val ds μ1 =>
    rw [e1] at k
    simp only [bind_val] at k
    intro vs H1 hl R1
    split at k
    · rename_i hn
      obtain ⟨S, ad, c, r⟩ := R1.args hl
      rw [List.append_nil]
      refine ⟨S, ad, μ1, ds, by rw [hl]; exact hn, hn, (c.here.tmps (zip_rpL r)).noslots, ?_⟩
      cases e2 : F ds μ1 with
      | fail => rw [e2] at k; exact k.elim
      | exc x μ2 => rw [e2] at k; exact k.elim
      | val d μ2 =>
        rw [e2] at k
        rintro v H2 ⟨S2, ad2, c2⟩
        exact k v H2 ⟨S2, ad2, c.keep c2⟩
    · exact k.elim⟩
end
section
variable {X : Cx} {W : WX} {e : Expr} {es : List Expr} {fa : AF} {n k : Nat} {f : Addr} {fd : FuncData} {ps : List Str} {x : Str} {p pos : Pos} {F : List D → Mu → Res D}
theorem de_call (G : FnOk X.prog X.w X.K X.mg X.base CX0 k f fd ps (spN X.K n F)) (hr : Room k X.A) (hg : Gl X x) (hm : X.mg x = some (.ref f)) (hk : PySem.W.keepIn X.K (.ref f) = true) (hb : Binds X.K fd ps []) (ha : DA X W (e :: es) fa)
    (hdb : (x == ("__debug__" : Str)) = false := by decide) (he : starEach (e :: es) X.env = (false, eval e X.env) :: starEach es X.env := by rfl) (hpl : (backTo pos (starEach es X.env)).any (·.1) = false := by rfl) : DE X W (.Call (.Name x p) (e :: es) [] pos) (eCall n F fa) :=
  let ⟨_, p1, q1⟩ := ha; ⟨_, pe_call G hr hg hm hk hb .nil pass0 p1 hdb he hpl, simE_call q1⟩
theorem de_callM (G : FnOk X.prog X.w X.K X.mg X.base CX0 k f fd ps (spN X.K n F)) (hr : Room k X.A) (hg : Gl X x) (hm : X.mg x = some (.ref f)) (hk : PySem.W.keepIn X.K (.ref f) = true) (hb : Binds X.K fd ps []) (ha : DA X W (e :: es) fa)
    (hdb : (x == ("__debug__" : Str)) = false := by decide) (he : starEach (e :: es) X.env = (false, eval e X.env) :: starEach es X.env := by rfl) (hpl : (backTo pos (starEach es X.env)).any (·.1) = false := by rfl) : DE X W (.Call (.Name x p) (e :: es) [] pos) (eCallM n F fa) :=
  let ⟨_, p1, q1⟩ := ha; ⟨_, pe_call G hr hg hm hk hb .nil pass0 p1 hdb he hpl, simE_callM q1⟩
end
/-- the law's own end -/
theorem law_end {K : PySem.W.Frag} {H : Hp} {a : Addr} {ns : List Int} {F : List D → Mu → Res D} {E : XK} (h : ∃ μ, F [.scr ns] [] = .val (.bl true) μ) (hS : SqL K H a (ns.map V.int)) : spN K 1 F [.ref a] H (fun v _ => v = .bl true) E := by
  obtain ⟨μ, h⟩ := h
  refine ⟨H, [], [], [.scr ns], rfl, rfl, ⟨fun _ _ e _ => e, Same.refl H, fun _ _ e => .inl e, Same.refl H, ⟨[], rfl, by simp⟩, by simp, by simp, rfl, fun n a x h => by simp at h, rfl, fun i d h => by simp at h, fun p m => ?_⟩, ?_⟩
  · have e : p = (.ref a, .scr ns) := by simpa using m
    subst e
    exact .scr hS
  · rw [h]
    rintro v H2 ⟨S, ad, c⟩
    cases c.hd
    rfl
end Dn

/-! Dn6: the denotations' equations for simp. -/
namespace Dn
open PySem PySem.Spec PyProof.Rows L2

section
variable {i j : Int} {μ : Mu} {a b : Str} {d e : D} {xs ys : List D}
@[simp] theorem gAdd_int : gAdd (.int i) (.int j) μ = .val (.int (i + j)) μ := rfl
@[simp] theorem gMinus_int : gMinus (.int i) (.int j) μ = .val (.int (i - j)) μ := rfl
@[simp] theorem gLt_int : gLt (.int i) (.int j) μ = .val (.bl (decide (i < j))) μ := rfl
@[simp] theorem gLe_int : gLe (.int i) (.int j) μ = .val (.bl (decide (i ≤ j))) μ := rfl
@[simp] theorem gGt_int : gGt (.int i) (.int j) μ = .val (.bl (decide (j < i))) μ := rfl
@[simp] theorem gGe_int : gGe (.int i) (.int j) μ = .val (.bl (decide (j ≤ i))) μ := rfl
@[simp] theorem gNeg_int : gNeg (.int i) μ = .val (.int (-i)) μ := rfl
@[simp] theorem gEq_int : gEq (.int i) (.int j) μ = .val (.bl (decide (i = j))) μ := rfl
@[simp] theorem gNe_int : gNe (.int i) (.int j) μ = .val (.bl (!decide (i = j))) μ := rfl
@[simp] theorem gEq_str : gEq (.str a) (.str b) μ = .val (.bl (decide (a = b))) μ := rfl
@[simp] theorem gNe_str : gNe (.str a) (.str b) μ = .val (.bl (!decide (a = b))) μ := rfl
@[simp] theorem gEq_bl {a b : Bool} : gEq (.bl a) (.bl b) μ = .val (.bl (decide (a = b))) μ := rfl
@[simp] theorem gNe_bl {a b : Bool} : gNe (.bl a) (.bl b) μ = .val (.bl (!decide (a = b))) μ := rfl
theorem gEq_py {p q : PyData} (hn : ∀ i j, ¬ (d = .int i ∧ e = .int j)) (hs : ∀ i j, ¬ (d = .str i ∧ e = .str j)) (hb : ∀ i j, ¬ (d = .bl i ∧ e = .bl j)) (h1 : topPy d μ = some p) (h2 : topPy e μ = some q) (h3 : SeqAt.shaped p = true) (h4 : SeqAt.shaped q = true) : gEq d e μ = .val (.bl (PyData.eqv p q)) μ := by
  have : gEqS d e μ = .fail := by
    unfold gEqS
    split
    · exact absurd ⟨rfl, rfl⟩ (hn _ _)
    · exact absurd ⟨rfl, rfl⟩ (hs _ _)
    · exact absurd ⟨rfl, rfl⟩ (hb _ _)
    · rfl
  unfold gEq orG
  rw [this]
  simp only
  unfold gEqD
  rw [h1, h2]
  simp only
  rw [if_pos ⟨h3, h4⟩]
theorem gNe_py {p q : PyData} (hn : ∀ i j, ¬ (d = .int i ∧ e = .int j)) (hs : ∀ i j, ¬ (d = .str i ∧ e = .str j)) (hb : ∀ i j, ¬ (d = .bl i ∧ e = .bl j)) (h1 : topPy d μ = some p) (h2 : topPy e μ = some q) (h3 : SeqAt.shaped p = true) (h4 : SeqAt.shaped q = true) : gNe d e μ = .val (.bl (!PyData.eqv p q)) μ := by
  have : gNeS d e μ = .fail := by
    unfold gNeS
    split
    · exact absurd ⟨rfl, rfl⟩ (hn _ _)
    · exact absurd ⟨rfl, rfl⟩ (hs _ _)
    · exact absurd ⟨rfl, rfl⟩ (hb _ _)
    · rfl
  unfold gNe orG
  rw [this]
  simp only
  unfold gNeD
  rw [h1, h2]
  simp only
  rw [if_pos ⟨h3, h4⟩]
@[simp] theorem gEq_nn : gEq .non .non μ = .val (.bl true) μ := by rw [gEq_py (p := .none) (q := .none) (by simp) (by simp) (by simp) rfl rfl rfl rfl]; rfl
@[simp] theorem gNe_nn : gNe .non .non μ = .val (.bl false) μ := by rw [gNe_py (p := .none) (q := .none) (by simp) (by simp) (by simp) rfl rfl rfl rfl]; rfl
@[simp] theorem gIsN_non : gIsN .non .non μ = .val (.bl true) μ := rfl
@[simp] theorem gIsN_int : gIsN (.int i) .non μ = .val (.bl false) μ := rfl
@[simp] theorem gIsN_str : gIsN (.str a) .non μ = .val (.bl false) μ := rfl
@[simp] theorem gIsN_tup : gIsN (.tup xs) .non μ = .val (.bl false) μ := rfl
@[simp] theorem gIsN_lst : gIsN (.lst xs) .non μ = .val (.bl false) μ := rfl
@[simp] theorem gIsN_ref {n : Nat} : gIsN (.ref n) .non μ = .val (.bl false) μ := rfl
@[simp] theorem gNotN_non : gNotN .non .non μ = .val (.bl false) μ := rfl
@[simp] theorem gNotN_int : gNotN (.int i) .non μ = .val (.bl true) μ := rfl
@[simp] theorem gNotN_str : gNotN (.str a) .non μ = .val (.bl true) μ := rfl
@[simp] theorem gNotN_tup : gNotN (.tup xs) .non μ = .val (.bl true) μ := rfl
@[simp] theorem gNotN_lst : gNotN (.lst xs) .non μ = .val (.bl true) μ := rfl
@[simp] theorem gNotN_ref {n : Nat} : gNotN (.ref n) .non μ = .val (.bl true) μ := rfl
/-! products: both small, or by their bits -/
theorem mulOk_small (h1 : -(2 ^ 64) < i) (h2 : i < 2 ^ 64) (h3 : -(2 ^ 64) < j) (h4 : j < 2 ^ 64) : MulOk i j := by
  have a : i.natAbs < 2 ^ 64 := by omega
  have b : j.natAbs < 2 ^ 64 := by omega
  have l : ∀ n : Nat, n < 2 ^ 64 → n.log2 ≤ 64 := fun n h => by
    by_cases hz : n = 0
    · subst hz; decide
    · exact Nat.le_of_lt ((Nat.log2_lt hz).mpr h)
  have := l _ a
  have := l _ b
  unfold MulOk
  omega
theorem gMul_ok (h : MulOk i j) : gMul (.int i) (.int j) μ = .val (.int (i * j)) μ := by
  unfold gMul orG gMulI gIc
  simp only [if_pos h]
theorem gMul_small (h1 : -(2 ^ 64) < i) (h2 : i < 2 ^ 64) (h3 : -(2 ^ 64) < j) (h4 : j < 2 ^ 64) : gMul (.int i) (.int j) μ = .val (.int (i * j)) μ := gMul_ok (mulOk_small h1 h2 h3 h4)
/-- an int of not too many bits -/
def Big (i : Int) : Prop := i.natAbs.log2 ≤ 2000000
theorem big_mul (h1 : Big i) (h2 : Big j) : MulOk i j := by unfold MulOk; unfold Big at h1 h2; omega
theorem log2_lt_pow {n k : Nat} (h : n.log2 ≤ k) : n < 2 ^ (k + 1) := by
  by_cases hz : n = 0
  · subst hz; exact Nat.two_pow_pos _
  · exact (Nat.log2_lt hz).mp (Nat.lt_succ_of_le h)
theorem lt_pow_log2 {n k : Nat} (h : n < 2 ^ (k + 1)) : n.log2 ≤ k := by
  by_cases hz : n = 0
  · subst hz; simp
  · exact Nat.le_of_lt_succ ((Nat.log2_lt hz).mpr h)
theorem log2_add {x y : Int} {k : Nat} (h1 : x.natAbs.log2 ≤ k) (h2 : y.natAbs.log2 ≤ k) : (x + y).natAbs.log2 ≤ k + 1 := by
  have a := log2_lt_pow h1
  have b := log2_lt_pow h2
  refine lt_pow_log2 ?_
  have c : (x + y).natAbs ≤ x.natAbs + y.natAbs := Int.natAbs_add_le x y
  have e : (2 : Nat) ^ (k + 1 + 1) = 2 ^ (k + 1) * 2 := Nat.pow_succ 2 (k + 1)
  rw [e]
  omega
theorem log2_small {x : Int} (h1 : -(2 ^ 64) < x) (h2 : x < 2 ^ 64) : x.natAbs.log2 ≤ 64 := by
  refine Nat.le_trans (lt_pow_log2 (k := 63) (show x.natAbs < 2 ^ 64 by omega)) (by decide)
theorem intBits_log2 {x : Int} {k : Nat} (h : Builtin.Int.intBits x ≤ k) : x.natAbs.log2 ≤ k := by
  unfold Builtin.Int.intBits at h
  split at h
  · rename_i e
    have e : x = 0 := by simpa using e
    subst e; simp
  · omega
/-! quotients, rests -/
theorem gDiv_ok (h : DivOk i j) : gDiv (.int i) (.int j) μ = .val (.int (i / j)) μ := by
  unfold gDiv gIc
  simp only [if_pos h]
theorem gDiv_pos (h1 : 0 < j) (h2 : j < 2 ^ 64) : gDiv (.int i) (.int j) μ = .val (.int (i / j)) μ := gDiv_ok ⟨h1, by
  have := log2_small (x := j) (by omega) h2
  omega⟩
theorem gMod_pos (h : 0 < j) : gMod (.int i) (.int j) μ = .val (.int (i % j)) μ := by
  unfold gMod gIc
  simp only [if_pos h]
theorem gPow_ok (h1 : 0 ≤ j) (h2 : j ≤ 1000000) (h3 : -(2 ^ 63) < i) (h4 : i < 2 ^ 63) : gPow (.int i) (.int j) μ = .val (.int (i ^ j.toNat)) μ := by
  unfold gPow gIc
  simp only [if_pos (show 0 ≤ j ∧ j ≤ 1000000 ∧ i.natAbs < 2 ^ 64 from ⟨h1, h2, by omega⟩)]
/-! items -/
theorem gIx_lst {x : D} (h : atI xs i = some x) : gIx (.lst xs) (.int i) μ = .val x μ := by simp [gIx, h]
theorem gIx_tup {x : D} (h : atI xs i = some x) : gIx (.tup xs) (.int i) μ = .val x μ := by simp [gIx, h]
theorem gIx_scr {ns : List Int} {x : D} (h : atI (mapD D.int ns) i = some x) : gIx (.scr ns) (.int i) μ = .val x μ := by simp [gIx, h]
theorem gIx_ref {n : Nat} {x : D} (hm : μ[n]? = some (.lst xs)) (h : atI xs i = some x) : gIx (.ref n) (.int i) μ = .val x μ := by simp [gIx, hm, h]
@[simp] theorem gIx_tup0 {x : D} : gIx (.tup (x :: xs)) (.int 0) μ = .val x μ := gIx_tup (by exact atI_nat (xs := x :: xs) (j := 0) rfl)
@[simp] theorem gIx_tup1 {x y : D} : gIx (.tup (x :: y :: xs)) (.int 1) μ = .val y μ := gIx_tup (by exact atI_nat (xs := x :: y :: xs) (j := 1) rfl)
section
variable {α : Type} {f : α → D} {zs ws : List α} {z : α}
@[simp] theorem mapD_length : (mapD f zs).length = zs.length := List.length_map _
@[simp] theorem mapD_nil : mapD f [] = [] := rfl
theorem mapD_cons : mapD f (z :: zs) = f z :: mapD f zs := rfl
@[simp] theorem mapD_app : mapD f zs ++ mapD f ws = mapD f (zs ++ ws) := (List.map_append ..).symm
@[simp] theorem mapD_snoc : mapD f zs ++ [f z] = mapD f (zs ++ [z]) := by unfold mapD; rw [List.map_append]; rfl
theorem mapD_get {i : Nat} : (mapD f zs)[i]? = (zs[i]?).map f := List.getElem?_map ..
theorem mapD_mem {d : D} : d ∈ mapD f zs ↔ ∃ x ∈ zs, f x = d := List.mem_map
theorem mapD_nf (h : ∀ x, nf (f x) = true) : nfL (mapD f zs) = true := by induction zs with
  | nil => rfl
  | cons n r ih => rw [mapD_cons]; simp [ih, h]
theorem mapD_fz (h : ∀ x, fz μ (f x) = f x) : fzL μ (mapD f zs) = mapD f zs := by induction zs with
  | nil => rfl
  | cons n r ih => rw [mapD_cons]; simp [ih, h]
def cutL (xs : List α) (lo hi : Option Int) : List α := (xs.drop (HT.sIx xs.length 0 lo)).take (HT.sIx xs.length xs.length hi - HT.sIx xs.length 0 lo)
@[simp] theorem mapD_cut {lo hi : Option Int} : cutD (mapD f zs) lo hi = mapD f (cutL zs lo hi) := by
  unfold cutD cutL mapD
  rw [List.length_map, List.map_take, List.map_drop]
theorem cutL_fromI {k : Int} (h0 : 0 ≤ k) : cutL zs (some k) none = zs.drop k.toNat := by
  have e : ((k.toNat : Nat) : Int) = k := by omega
  unfold cutL
  rw [← e, HT.sIx_nat, HT.sIx_none]
  by_cases h : k.toNat ≤ zs.length
  · rw [Nat.min_eq_left h, List.take_of_length_le (by rw [List.length_drop]; omega)]; congr 1
  · rw [Nat.min_eq_right (by omega), Nat.sub_self, List.take_zero, List.drop_eq_nil_of_le (by omega)]
theorem atI_mapD {i : Int} : atI (mapD f zs) i = (atI zs i).map f := by
  unfold atI
  rw [mapD_length]
  cases ixN zs.length i with
  | none => rfl
  | some j => exact mapD_get
theorem atI_in {k : Int} [Inhabited α] (h0 : 0 ≤ k) (h1 : k < zs.length) : atI zs k = some (zs.getD k.toNat default) := by
  have hk : k.toNat < zs.length := by omega
  have e : zs[k.toNat]? = some (zs.getD k.toNat default) := by rw [List.getD_eq_getElem?_getD, List.getElem?_eq_getElem hk]; rfl
  have := atI_nat e
  rw [show ((k.toNat : Nat) : Int) = k by omega] at this
  exact this
theorem atI_last' [Inhabited α] (h : zs ≠ []) : atI zs (-1) = some (zs.getD (zs.length - 1) default) := by
  have hl : 0 < zs.length := List.length_pos_iff.mpr h
  have hk : zs.length - 1 < zs.length := by omega
  unfold atI ixN
  rw [if_neg (by decide), if_pos (by omega)]
  have e : (-1 + (zs.length : Int)).toNat = zs.length - 1 := by omega
  show (some ((-1 + (zs.length : Int)).toNat)).bind _ = _
  rw [e]
  show zs[zs.length - 1]? = _
  rw [List.getD_eq_getElem?_getD, List.getElem?_eq_getElem hk]; rfl
end
/-- an item, by a name that simp leaves alone -/
def nth (ns : List Int) (k : Nat) : Int := ns.getD k 0
theorem atI_map {f : Int → D} {ns : List Int} {k : Int} (h0 : 0 ≤ k) (h1 : k < ns.length) : atI (mapD f ns) k = some (f (nth ns k.toNat)) := by rw [atI_mapD, atI_in h0 h1]; rfl
theorem atI_neg {f : Int → D} {ns : List Int} (h : ns ≠ []) : atI (mapD f ns) (-1) = some (f (nth ns (ns.length - 1))) := by rw [atI_mapD, atI_last' h]; rfl
theorem nth_eq {ns : List Int} {k : Nat} (h : k < ns.length) : nth ns k = ns[k] := by unfold nth; rw [List.getD_eq_getElem?_getD, List.getElem?_eq_getElem h]; rfl
/-! lists of ints -/
@[simp] theorem nfL_ints (ns : List Int) : nfL (mapD D.int ns) = true := mapD_nf fun _ => by simp
@[simp] theorem fzL_ints (ns : List Int) : fzL μ (mapD D.int ns) = mapD D.int ns := mapD_fz fun _ => by simp
@[simp] theorem toPyL_ints (ns : List Int) : toPyL (mapD D.int ns) = some (ns.map PyData.int) := by induction ns with
  | nil => rfl
  | cons n r ih => rw [mapD_cons]; simp [ih]
@[simp] theorem lay_ints (ns : List Int) : PyData.canLayAll0 (ns.map PyData.int) = true := by induction ns with
  | nil => simp [PyData.canLayAll0]
  | cons n r ih => simp [PyData.canLayAll0, PyData.canLay0, ih]
@[simp] theorem depth_ints (ns : List Int) : PyData.depthAll (ns.map PyData.int) = 0 := by induction ns with
  | nil => simp [PyData.depthAll]
  | cons n r ih => simp [PyData.depthAll, PyData.depth, ih]
@[simp] theorem eqv_ints (ns ms : List Int) : PyData.eqvAll (ns.map PyData.int) (ms.map PyData.int) = decide (ns = ms) := by
  induction ns generalizing ms with
  | nil => cases ms <;> simp [PyData.eqvAll]
  | cons n r ih =>
    cases ms with
    | nil => simp [PyData.eqvAll]
    | cons m t => simp [PyData.eqvAll, PyData.eqv, ih, Bool.beq_eq_decide_eq]
@[simp] theorem shaped_eq (p : PyData) : SeqAt.shaped p = (p.canLay0 && decide (p.depth ≤ 64)) := rfl
section
variable {i j : Int} {b c : Bool} {x y : Str} {ps qs : List PyData} {p q : PyData}
@[simp] theorem lay_none : PyData.canLay0 .none = true := by simp only [PyData.canLay0]
@[simp] theorem lay_bool : PyData.canLay0 (.bool b) = true := by simp only [PyData.canLay0]
@[simp] theorem lay_int : PyData.canLay0 (.int i) = true := by simp only [PyData.canLay0]
@[simp] theorem lay_str : PyData.canLay0 (.str x) = PyData.strOk x := by simp only [PyData.canLay0]
@[simp] theorem lay_list : PyData.canLay0 (.list ps) = PyData.canLayAll0 ps := by simp only [PyData.canLay0]
@[simp] theorem lay_tuple : PyData.canLay0 (.tuple ps) = PyData.canLayAll0 ps := by simp only [PyData.canLay0]
@[simp] theorem lay_nil : PyData.canLayAll0 [] = true := by simp only [PyData.canLayAll0]
@[simp] theorem lay_cons : PyData.canLayAll0 (p :: ps) = (p.canLay0 && PyData.canLayAll0 ps) := by simp only [PyData.canLayAll0]
@[simp] theorem dep_none : PyData.depth .none = 0 := by simp only [PyData.depth]
@[simp] theorem dep_bool : PyData.depth (.bool b) = 0 := by simp only [PyData.depth]
@[simp] theorem dep_int : PyData.depth (.int i) = 0 := by simp only [PyData.depth]
@[simp] theorem dep_str : PyData.depth (.str x) = 0 := by simp only [PyData.depth]
@[simp] theorem dep_list : PyData.depth (.list ps) = PyData.depthAll ps + 1 := by simp only [PyData.depth]
@[simp] theorem dep_tuple : PyData.depth (.tuple ps) = PyData.depthAll ps + 1 := by simp only [PyData.depth]
@[simp] theorem dep_nil : PyData.depthAll [] = 0 := by simp only [PyData.depthAll]
@[simp] theorem dep_cons : PyData.depthAll (p :: ps) = max p.depth (PyData.depthAll ps) := by simp only [PyData.depthAll]
@[simp] theorem eqv_nn : PyData.eqv .none .none = true := by simp only [PyData.eqv]
@[simp] theorem eqv_bb : PyData.eqv (.bool b) (.bool c) = (b == c) := by simp only [PyData.eqv]
@[simp] theorem eqv_ii : PyData.eqv (.int i) (.int j) = decide (i = j) := by simp only [PyData.eqv, Bool.beq_eq_decide_eq]
@[simp] theorem eqv_ss : PyData.eqv (.str x) (.str y) = (x == y) := by simp only [PyData.eqv]
@[simp] theorem eqv_ll : PyData.eqv (.list ps) (.list qs) = PyData.eqvAll ps qs := by simp only [PyData.eqv]
@[simp] theorem eqv_tt : PyData.eqv (.tuple ps) (.tuple qs) = PyData.eqvAll ps qs := by simp only [PyData.eqv]
@[simp] theorem eqv_ni : PyData.eqv .none (.int j) = false := by simp only [PyData.eqv]
@[simp] theorem eqv_in : PyData.eqv (.int i) .none = false := by simp only [PyData.eqv]
@[simp] theorem eqv_nt : PyData.eqv .none (.tuple qs) = false := by simp only [PyData.eqv]
@[simp] theorem eqv_tn : PyData.eqv (.tuple qs) .none = false := by simp only [PyData.eqv]
@[simp] theorem eqv_00 : PyData.eqvAll [] [] = true := by simp only [PyData.eqvAll]
@[simp] theorem eqv_0c : PyData.eqvAll [] (p :: ps) = false := by simp only [PyData.eqvAll]
@[simp] theorem eqv_c0 : PyData.eqvAll (p :: ps) [] = false := by simp only [PyData.eqvAll]
@[simp] theorem eqv_cc : PyData.eqvAll (p :: ps) (q :: qs) = (PyData.eqv p q && PyData.eqvAll ps qs) := by simp only [PyData.eqvAll]
end
end
theorem runF_ret {n : Nat} {b : SF} {ds : List D} {μ μ' : Mu} {d : D} (h : b (ds.map some ++ List.replicate (n - ds.length) none) μ = .ret d μ') : runF n b ds μ = .val d μ' := by unfold runF; rw [h]
@[simp] theorem forL_nil (g : GT) (b : SF) (ρ : Ro) (μ : Mu) : forL g b [] ρ μ = .nx ρ μ := rfl
theorem forL_cons (g : GT) (b : SF) (d : D) (ds : List D) (ρ : Ro) (μ : Mu) : forL g b (d :: ds) ρ μ = match g d ρ μ with
    | none => .fail
    | some p => match b p.1 p.2 with
      | .nx ρ2 μ2 => forL g b ds ρ2 μ2
      | .ct ρ2 μ2 => forL g b ds ρ2 μ2
      | .bk ρ2 μ2 => .nx ρ2 μ2
      | .ret d μ2 => .ret d μ2
      | .exc x ρ2 μ2 => .exc x ρ2 μ2
      | .fail => .fail := rfl
@[simp] theorem compL_nil (g : GT) (tt : TF) (te : EF) (ρ : Ro) (μ : Mu) (acc : List D) : compL g tt te ρ [] μ acc = .val acc μ := rfl
theorem compL_cons (g : GT) (tt : TF) (te : EF) (ρ : Ro) (d : D) (ds : List D) (μ : Mu) (acc : List D) : compL g tt te ρ (d :: ds) μ acc = match g d ρ μ with
    | none => .fail
    | some p => match tt p.1 p.2 with
      | .val true μ3 => (match te p.1 μ3 with
        | .val y μ4 => compL g tt te ρ ds μ4 (acc ++ [y])
        | _ => .fail)
      | .val false μ3 => compL g tt te ρ ds μ3 acc
      | _ => .fail := rfl
/-! loops by an invariant -/
def turn (g : GT) (b : SF) (d : D) (ρ : Ro) (μ : Mu) : Out := match g d ρ μ with
  | none => .fail
  | some p => b p.1 p.2
@[simp] theorem turn_n (i : Nat) (b : SF) (d : D) (ρ : Ro) (μ : Mu) : turn (gN i) b d ρ μ = b (ρ.set i (some d)) μ := rfl
theorem forL_turn (g : GT) (b : SF) (d : D) (ds : List D) (ρ : Ro) (μ : Mu) : forL g b (d :: ds) ρ μ = match turn g b d ρ μ with
      | .nx ρ2 μ2 => forL g b ds ρ2 μ2
      | .ct ρ2 μ2 => forL g b ds ρ2 μ2
      | .bk ρ2 μ2 => .nx ρ2 μ2
      | .ret d μ2 => .ret d μ2
      | .exc x ρ2 μ2 => .exc x ρ2 μ2
      | .fail => .fail := by
  rw [forL_cons]
  unfold turn
  cases g d ρ μ <;> rfl
/-- how a turn ends: on (N), out of the loop (B), out of the def (R) -/
def Ends3 (N B : Ro → Mu → Prop) (R : D → Mu → Prop) : Out → Prop
  | .nx ρ μ => N ρ μ
  | .ct ρ μ => N ρ μ
  | .bk ρ μ => B ρ μ
  | .ret d μ => R d μ
  | _ => False
def LoopEnds (N : Ro → Mu → Prop) (R : D → Mu → Prop) : Out → Prop
  | .nx ρ μ => N ρ μ
  | .ret d μ => R d μ
  | _ => False
theorem forL_ends {g : GT} {b : SF} {B : Ro → Mu → Prop} {R : D → Mu → Prop} : ∀ {ds : List D} (I : Nat → Ro → Mu → Prop) {ρ : Ro} {μ : Mu}, I 0 ρ μ →
    (∀ (i : Nat) (d : D) (ρ : Ro) (μ : Mu), ds[i]? = some d → I i ρ μ → Ends3 (I (i + 1)) B R (turn g b d ρ μ)) → LoopEnds (fun ρ μ => I ds.length ρ μ ∨ B ρ μ) R (forL g b ds ρ μ)
  | [], I, ρ, μ, h0, _ => .inl h0
  | d :: ds, I, ρ, μ, h0, hs => by
    have h1 := hs 0 d ρ μ rfl h0
    rw [forL_turn]
    cases e : turn g b d ρ μ with
    | nx ρ2 μ2 => rw [e] at h1; exact forL_ends (fun i => I (i + 1)) h1 fun i d' ρ μ hd hi => hs (i + 1) d' ρ μ hd hi
    | ct ρ2 μ2 => rw [e] at h1; exact forL_ends (fun i => I (i + 1)) h1 fun i d' ρ μ hd hi => hs (i + 1) d' ρ μ hd hi
    | bk ρ2 μ2 => rw [e] at h1; exact .inr h1
    | ret d2 μ2 => rw [e] at h1; exact h1
    | exc x ρ2 μ2 => rw [e] at h1; exact h1.elim
    | fail => rw [e] at h1; exact h1.elim
/-- every turn goes on -/
theorem forL_nx {g : GT} {b : SF} {ds : List D} (I : Nat → Ro → Mu → Prop) {ρ : Ro} {μ : Mu} (h0 : I 0 ρ μ) (hs : ∀ (i : Nat) (d : D) (ρ : Ro) (μ : Mu), ds[i]? = some d → I i ρ μ → ∃ ρ' μ', turn g b d ρ μ = .nx ρ' μ' ∧ I (i + 1) ρ' μ') :
    ∃ ρ' μ', forL g b ds ρ μ = .nx ρ' μ' ∧ I ds.length ρ' μ' := by
  have h := forL_ends (g := g) (b := b) (B := fun _ _ => False) (R := fun _ _ => False) I h0 fun i d ρ μ hd hi => by
    obtain ⟨ρ', μ', e, k⟩ := hs i d ρ μ hd hi
    rw [e]; exact k
  cases e : forL g b ds ρ μ with
  | nx ρ' μ' => rw [e] at h; exact ⟨ρ', μ', rfl, h.resolve_right id⟩
  | _ => rw [e] at h; exact h.elim
theorem rng_get {lo : Int} {n i : Nat} {d : D} (h : ((List.range n).map fun i : Nat => D.int (lo + (i : Int)))[i]? = some d) : d = .int (lo + (i : Int)) ∧ i < n := by
  rw [List.getElem?_map] at h
  cases e : (List.range n)[i]? with
  | none => rw [e] at h; cases h
  | some j =>
    rw [e] at h
    cases h
    obtain ⟨h1, h2⟩ := List.getElem?_eq_some_iff.mp e
    rw [List.getElem_range] at h2
    subst h2
    rw [List.length_range] at h1
    exact ⟨rfl, h1⟩
theorem rng_len {lo : Int} {n : Nat} : ((List.range n).map fun i : Nat => D.int (lo + (i : Int))).length = n := by rw [List.length_map, List.length_range]
/-- over range(n), every turn goes on -/
theorem forR_nx {s : Nat} {b : SF} {lo : Int} {n : Nat} (I : Nat → Ro → Mu → Prop) {ρ : Ro} {μ : Mu} (h0 : I 0 ρ μ) (hs : ∀ (i : Nat) (ρ : Ro) (μ : Mu), i < n → I i ρ μ → ∃ ρ' μ', b (ρ.set s (some (.int (lo + (i : Int))))) μ = .nx ρ' μ' ∧ I (i + 1) ρ' μ') :
    ∃ ρ' μ', forL (gN s) b ((List.range n).map fun i : Nat => D.int (lo + (i : Int))) ρ μ = .nx ρ' μ' ∧ I n ρ' μ' := by
  have h := forL_nx (g := gN s) (b := b) (ds := (List.range n).map fun i : Nat => D.int (lo + (i : Int))) I h0 fun i d ρ μ hd hi => by
    obtain ⟨rfl, hn⟩ := rng_get hd
    exact hs i ρ μ hn hi
  rw [rng_len] at h
  exact h
theorem forR_ends {s : Nat} {b : SF} {lo : Int} {n : Nat} {B : Ro → Mu → Prop} {R : D → Mu → Prop} (I : Nat → Ro → Mu → Prop) {ρ : Ro} {μ : Mu} (h0 : I 0 ρ μ) (hs : ∀ (i : Nat) (ρ : Ro) (μ : Mu), i < n → I i ρ μ → Ends3 (I (i + 1)) B R (b (ρ.set s (some (.int (lo + (i : Int))))) μ)) :
    LoopEnds (fun ρ μ => I n ρ μ ∨ B ρ μ) R (forL (gN s) b ((List.range n).map fun i : Nat => D.int (lo + (i : Int))) ρ μ) := by
  have h := forL_ends (g := gN s) (b := b) (ds := (List.range n).map fun i : Nat => D.int (lo + (i : Int))) (B := B) (R := R) I h0 fun i d ρ μ hd hi => by
    obtain ⟨rfl, hn⟩ := rng_get hd
    exact hs i ρ μ hn hi
  rw [rng_len] at h
  exact h
/-- a turn goes on -/
def Goes (N : Ro → Mu → Prop) : Out → Prop
  | .nx ρ μ => N ρ μ
  | .ct ρ μ => N ρ μ
  | _ => False
@[simp] theorem goes_nx {N : Ro → Mu → Prop} {ρ : Ro} {μ : Mu} : Goes N (.nx ρ μ) = N ρ μ := rfl
@[simp] theorem goes_ct {N : Ro → Mu → Prop} {ρ : Ro} {μ : Mu} : Goes N (.ct ρ μ) = N ρ μ := rfl
@[simp] theorem ends3_nx {N B : Ro → Mu → Prop} {R : D → Mu → Prop} {ρ : Ro} {μ : Mu} : Ends3 N B R (.nx ρ μ) = N ρ μ := rfl
@[simp] theorem ends3_ct {N B : Ro → Mu → Prop} {R : D → Mu → Prop} {ρ : Ro} {μ : Mu} : Ends3 N B R (.ct ρ μ) = N ρ μ := rfl
@[simp] theorem ends3_bk {N B : Ro → Mu → Prop} {R : D → Mu → Prop} {ρ : Ro} {μ : Mu} : Ends3 N B R (.bk ρ μ) = B ρ μ := rfl
@[simp] theorem ends3_ret {N B : Ro → Mu → Prop} {R : D → Mu → Prop} {d : D} {μ : Mu} : Ends3 N B R (.ret d μ) = R d μ := rfl
theorem forL_go {g : GT} {b : SF} {ds : List D} (I : Nat → Ro → Mu → Prop) {ρ : Ro} {μ : Mu} (h0 : I 0 ρ μ) (hs : ∀ (i : Nat) (d : D) (ρ : Ro) (μ : Mu), ds[i]? = some d → I i ρ μ → Goes (I (i + 1)) (turn g b d ρ μ)) :
    ∃ ρ' μ', forL g b ds ρ μ = .nx ρ' μ' ∧ I ds.length ρ' μ' := by
  have h := forL_ends (g := g) (b := b) (B := fun _ _ => False) (R := fun _ _ => False) I h0 fun i d ρ μ hd hi => by
    have k := hs i d ρ μ hd hi
    cases e : turn g b d ρ μ <;> rw [e] at k <;> exact k
  cases e : forL g b ds ρ μ with
  | nx ρ' μ' => rw [e] at h; exact ⟨ρ', μ', rfl, h.resolve_right id⟩
  | _ => rw [e] at h; exact h.elim
theorem forR_go {s : Nat} {b : SF} {lo : Int} {n : Nat} (I : Nat → Ro → Mu → Prop) {ρ : Ro} {μ : Mu} (h0 : I 0 ρ μ) (hs : ∀ (i : Nat) (ρ : Ro) (μ : Mu), i < n → I i ρ μ → Goes (I (i + 1)) (b (ρ.set s (some (.int (lo + (i : Int))))) μ)) :
    ∃ ρ' μ', forL (gN s) b ((List.range n).map fun i : Nat => D.int (lo + (i : Int))) ρ μ = .nx ρ' μ' ∧ I n ρ' μ' := by
  have h := forL_go (g := gN s) (b := b) (ds := (List.range n).map fun i : Nat => D.int (lo + (i : Int))) I h0 fun i d ρ μ hd hi => by
    obtain ⟨rfl, hn⟩ := rng_get hd
    exact hs i ρ μ hn hi
  rw [rng_len] at h
  exact h
/-- a def's answer -/
def Yes (P : D → Mu → Prop) : Res D → Prop
  | .val d μ => P d μ
  | _ => False
@[simp] theorem yes_val {P : D → Mu → Prop} {d : D} {μ : Mu} : Yes P (.val d μ) = P d μ := rfl
theorem Yes.get {P : D → Mu → Prop} {r : Res D} (h : Yes P r) : ∃ d μ, r = .val d μ ∧ P d μ := by
  cases r with
  | val d μ => exact ⟨d, μ, rfl, h⟩
  | _ => exact h.elim
/-! comprehensions as map and filter -/
theorem compN_map {s : Nat} {te : EF} {ρ : Ro} {μ : Mu} {f : D → D} : ∀ {ds : List D} {acc : List D}, (∀ d ∈ ds, te (ρ.set s (some d)) μ = .val (f d) μ) → compL (gN s) tfYes te ρ ds μ acc = .val (acc ++ ds.map f) μ
  | [], acc, _ => by simp
  | d :: ds, acc, h => by
    rw [compL_cons]
    have h1 := h d List.mem_cons_self
    have ih := compN_map (s := s) (te := te) (ρ := ρ) (μ := μ) (f := f) (ds := ds) (acc := acc ++ [f d]) fun d m => h d (List.mem_cons_of_mem _ m)
    simp [h1, ih]
theorem compN_filter {s : Nat} {tt : TF} {te : EF} {ρ : Ro} {μ : Mu} {f : D → D} {q : D → Bool} : ∀ {ds : List D} {acc : List D}, (∀ d ∈ ds, tt (ρ.set s (some d)) μ = .val (q d) μ) → (∀ d ∈ ds, q d = true → te (ρ.set s (some d)) μ = .val (f d) μ) →
    compL (gN s) tt te ρ ds μ acc = .val (acc ++ (ds.filter q).map f) μ
  | [], acc, _, _ => by simp
  | d :: ds, acc, h1, h2 => by
    rw [compL_cons]
    have g1 := h1 d List.mem_cons_self
    cases e : q d with
    | true =>
      have g2 := h2 d List.mem_cons_self e
      have ih := compN_filter (s := s) (tt := tt) (te := te) (ρ := ρ) (μ := μ) (f := f) (q := q) (ds := ds) (acc := acc ++ [f d]) (fun d m => h1 d (List.mem_cons_of_mem _ m)) fun d m => h2 d (List.mem_cons_of_mem _ m)
      simp [g1, e, g2, ih]
    | false =>
      have ih := compN_filter (s := s) (tt := tt) (te := te) (ρ := ρ) (μ := μ) (f := f) (q := q) (ds := ds) (acc := acc) (fun d m => h1 d (List.mem_cons_of_mem _ m)) fun d m => h2 d (List.mem_cons_of_mem _ m)
      simp [g1, e, ih]
theorem blsOf_mapD {α : Type} (q : α → Bool) (xs : List α) : blsOf (mapD (fun x => D.bl (q x)) xs) = some (xs.map q) := by
  induction xs with
  | nil => rfl
  | cons x r ih => rw [mapD_cons]; simp [ih]
theorem compN_mapD {α : Type} {s : Nat} {te : EF} {ρ : Ro} {μ : Mu} {f h : α → D} : ∀ {xs : List α} {acc : List D}, (∀ x ∈ xs, te (ρ.set s (some (f x))) μ = .val (h x) μ) → compL (gN s) tfYes te ρ (mapD f xs) μ acc = .val (acc ++ mapD h xs) μ
  | [], acc, _ => by simp
  | d :: ds, acc, k => by
    rw [mapD_cons, compL_cons]
    have h1 := k d List.mem_cons_self
    have ih := compN_mapD (s := s) (te := te) (ρ := ρ) (μ := μ) (f := f) (h := h) (xs := ds) (acc := acc ++ [h d]) fun d m => k d (List.mem_cons_of_mem _ m)
    simp [h1, ih, mapD_cons]
theorem compN_filterD {α : Type} {s : Nat} {tt : TF} {te : EF} {ρ : Ro} {μ : Mu} {f h : α → D} {q : α → Bool} : ∀ {xs : List α} {acc : List D}, (∀ x ∈ xs, tt (ρ.set s (some (f x))) μ = .val (q x) μ) → (∀ x ∈ xs, q x = true → te (ρ.set s (some (f x))) μ = .val (h x) μ) →
    compL (gN s) tt te ρ (mapD f xs) μ acc = .val (acc ++ mapD h (xs.filter q)) μ
  | [], acc, _, _ => by simp
  | d :: ds, acc, h1, h2 => by
    rw [mapD_cons, compL_cons]
    have g1 := h1 d List.mem_cons_self
    cases e : q d with
    | true =>
      have g2 := h2 d List.mem_cons_self e
      have ih := compN_filterD (s := s) (tt := tt) (te := te) (ρ := ρ) (μ := μ) (f := f) (h := h) (q := q) (xs := ds) (acc := acc ++ [h d]) (fun d m => h1 d (List.mem_cons_of_mem _ m)) fun d m => h2 d (List.mem_cons_of_mem _ m)
      simp [g1, e, g2, ih, mapD_cons]
    | false =>
      have ih := compN_filterD (s := s) (tt := tt) (te := te) (ρ := ρ) (μ := μ) (f := f) (h := h) (q := q) (xs := ds) (acc := acc) (fun d m => h1 d (List.mem_cons_of_mem _ m)) fun d m => h2 d (List.mem_cons_of_mem _ m)
      simp [g1, e, ih]
/-- a loop that appends -/
theorem forL_app {U : Type} {g : GT} {b : SF} {mk : U → Ro} {μs : List D → Mu} {f : D → D} : ∀ {ds : List D} {u : U} {acc : List D}, acc.length + ds.length ≤ 100000 →
    (∀ d ∈ ds, ∀ (u : U) (acc : List D), acc.length < 100000 → ∃ u', turn g b d (mk u) (μs acc) = .nx (mk u') (μs (acc ++ [f d]))) → ∃ u', forL g b ds (mk u) (μs acc) = .nx (mk u') (μs (acc ++ ds.map f))
  | [], u, acc, _, _ => ⟨u, by simp⟩
  | d :: ds, u, acc, hz, h => by
    rw [List.length_cons] at hz
    obtain ⟨u1, e1⟩ := h d List.mem_cons_self u acc (by omega)
    obtain ⟨u2, e2⟩ := forL_app (g := g) (b := b) (mk := mk) (μs := μs) (f := f) (ds := ds) (u := u1) (acc := acc ++ [f d]) (by rw [List.length_append]; simp; omega) fun d m => h d (List.mem_cons_of_mem _ m)
    refine ⟨u2, ?_⟩
    rw [forL_turn, e1]
    simp only [e2]
    simp
theorem forL_appD {α U : Type} {g : GT} {b : SF} {mk : U → Ro} {μs : List D → Mu} {f h : α → D} : ∀ {xs : List α} {u : U} {acc : List D}, acc.length + xs.length ≤ 100000 →
    (∀ x ∈ xs, ∀ (u : U) (acc : List D), acc.length < 100000 → ∃ u', turn g b (f x) (mk u) (μs acc) = .nx (mk u') (μs (acc ++ [h x]))) → ∃ u', forL g b (mapD f xs) (mk u) (μs acc) = .nx (mk u') (μs (acc ++ mapD h xs))
  | [], u, acc, _, _ => ⟨u, by simp⟩
  | d :: ds, u, acc, hz, k => by
    rw [List.length_cons] at hz
    obtain ⟨u1, e1⟩ := k d List.mem_cons_self u acc (by omega)
    obtain ⟨u2, e2⟩ := forL_appD (g := g) (b := b) (mk := mk) (μs := μs) (f := f) (h := h) (xs := ds) (u := u1) (acc := acc ++ [h d]) (by rw [List.length_append]; simp; omega) fun d m => k d (List.mem_cons_of_mem _ m)
    refine ⟨u2, ?_⟩
    rw [mapD_cons, forL_turn, e1]
    simp only [e2]
    simp [mapD_cons]
end Dn

/-! Dn7: t[::-1] of a tuple, of a list. -/
namespace Dn
open PySem PySem.Spec PyProof.Rows L2
section
variable {prog : Program} {w : World} {A : Around} {E : Value → Shared → Prop} {s : Shared}
theorem pick_rev (xs : Array Value) (n : Nat) (h : n = xs.size) : ((List.range n).filterMap fun (m : Nat) => xs[((n : Int) - 1 + (m : Int) * -1).toNat]?).toArray = xs.toList.reverse.toArray := by
  subst h
  congr 1
  have key : ∀ k : Nat, k ≤ xs.size → (List.range k).filterMap (fun (m : Nat) => xs[((xs.size : Int) - 1 + (m : Int) * -1).toNat]?) = xs.toList.reverse.take k := by
    intro k
    induction k with
    | zero => intro _; rfl
    | succ k ih =>
      intro hk
      rw [List.range_succ, List.filterMap_append, ih (by omega)]
      have hlt : k < xs.toList.reverse.length := by rw [List.length_reverse, Array.length_toList]; omega
      rw [List.take_succ, List.getElem?_eq_getElem hlt, List.getElem_reverse]
      have e2 : ((xs.size : Int) - 1 + (k : Int) * -1).toNat = xs.size - 1 - k := by omega
      have e3 : xs[xs.size - 1 - k]? = some (xs.toList[xs.toList.length - 1 - k]'(by rw [Array.length_toList]; omega)) := by
        rw [Array.getElem?_eq_getElem (by omega)]
        simp
      simp only [List.filterMap_cons, List.filterMap_nil, e2, e3]
      rfl
  rw [key xs.size (Nat.le_refl _), List.take_of_length_le (by rw [List.length_reverse, Array.length_toList]; exact Nat.le_refl _)]
theorem sliceApplied_rev {sl : Addr} {vl vu vs : Value} {n : Nat} {Q : Int × Int × Nat → Shared → Prop} (hs : s.heap.IsSliceOf sl vl vu vs) (pl : IsPart vl none) (pu : IsPart vu none) (pk : IsPart vs (some (-1)))
    (h : Q ((n : Int) - 1, -1, n) s) : wpAny (model prog w) A (Builtin.Slice.sliceApplied (.ref sl) (pure (n : Int))) Q E s := by
  obtain ⟨os, hos, hcs, hds⟩ := id hs
  unfold Builtin.Slice.sliceApplied Builtin.Slice.sliceFields
  refine wpAny_bind (wpAny_bind (wpAny_field hos hds (x := vl) rfl (wpAny_bind (wpAny_field hos hds (x := vu) rfl (wpAny_bind (wpAny_field hos hds (x := vs) rfl (wpAny_pure ?_)))))))
  refine wpAny_bind (HT.slicePart_ pk ?_)
  show wpAny _ _ (if ((-1 : Int) == 0) = true then _ else _) _ _ s
  rw [if_neg (by decide)]
  refine wpAny_bind (HT.slicePart_ pl (wpAny_bind (HT.slicePart_ pu (wpAny_bind (wpAny_pure ?_)))))
  show wpAny _ _ (match Builtin.Slice.sliceAdjust none none (-1) (n : Int) with | (lo, hi) => pure (lo, (-1 : Int), Builtin.Slice.slicePlaces lo hi (-1))) _ _ s
  have e : Builtin.Slice.sliceAdjust none none (-1) (n : Int) = ((n : Int) - 1, -1) := by
    unfold Builtin.Slice.sliceAdjust
    simp
  rw [e]
  show wpAny _ _ (pure ((n : Int) - 1, (-1 : Int), Builtin.Slice.slicePlaces ((n : Int) - 1) (-1) (-1))) _ _ s
  have e2 : Builtin.Slice.slicePlaces ((n : Int) - 1) (-1) (-1) = n := by
    unfold Builtin.Slice.slicePlaces
    simp
    split <;> omega
  rw [e2]
  exact wpAny_pure h
theorem getItem_tuple_rev {t sl : Addr} {items : Array Value} {vl vu vs : Value} {Q : Value → Shared → Prop} (ht : IsTup s.heap t items) (hs : s.heap.IsSliceOf sl vl vu vs) (pl : IsPart vl none) (pu : IsPart vu none) (pk : IsPart vs (some (-1)))
    (h : Q (.ref s.heap.objs.size) { s with heap := s.heap.push { cls := .type "tuple", data := .seq items.toList.reverse.toArray } })
    (hsz : items.size ≤ sizeLine) : wpAny (model prog w) A (getItem (.ref t) (.ref sl)) Q E s := by
  have htake : sizeOk (.seq items.toList.reverse.toArray) := by
    show items.toList.reverse.toArray.size ≤ sizeLine
    rw [List.size_toArray, List.length_reverse, Array.length_toList]
    exact hsz
  obtain ⟨os, hos, hcs, hds⟩ := id hs
  have hTs : s.TypeIs (.ref sl) "slice" := ⟨os, hos, hcs⟩
  unfold getItem
  try with_reducible refine wpAny_holding ?_
  first | refine wpAny_bind (wpAny_pure ?_) | skip
  refine wpAny_bind (wpAny_sequenceKey ht.typeIs (by decide) ?_)
  refine wpAny_bind (wpAny_callSpecial?_slot (name := Str.ofString "__getitem__") ht.typeIs PyProof.Rows.slot_tuple_getitem
    (wpAny_call_entry PyProof.Rows.slot_tuple_getitem ht.typeIs entry_tuple_getitem ?_ (args_tuple_getitem _ _)))
  show wpAny _ _ (Builtin.Tuple.tupleItemsOf (.ref t) >>= _) _ _ s
  refine wpAny_bind (tupleItemsOf_ ht ?_)
  refine wpAny_bind (wpAny_typeOf hTs ?_)
  rw [if_pos (by decide)]
  refine wpAny_bind (sliceApplied_rev hs pl pu pk ?_)
  have hno : ¬ ((((items.size : Int) - 1) == 0 && (-1 : Int) == 1 && items.size == items.size) = true) := by
    intro q
    rw [Bool.and_eq_true, Bool.and_eq_true] at q
    exact absurd q.1.2 (by decide)
  show wpAny _ _ (if (((items.size : Int) - 1) == 0 && (-1 : Int) == 1 && items.size == items.size) = true then _ else _) _ _ s
  rw [if_neg hno, pick_rev items items.size rfl]
  first
    | exact wpAny_bind (m := Builtin.Tuple.tupleExact _) (wpAny_newObj_type (wpAny_pure ⟨_, rfl, wpAny_pure h⟩) htake)
    | exact wpAny_bind (m := Builtin.Tuple.tupleExact _) (wpAny_newObj_type (wpAny_bind (wpAny_pure (wpAny_pure ⟨_, rfl, wpAny_pure h⟩))) htake)
    | exact wpAny_bind (wpAny_bind (m := Builtin.Tuple.tupleExact _) (wpAny_newObj_type (wpAny_pure (wpAny_pure ⟨_, rfl, wpAny_pure h⟩)) htake))
    | exact wpAny_bind (wpAny_bind (m := Builtin.Tuple.tupleExact _) (wpAny_newObj_type (wpAny_pure ⟨_, rfl, wpAny_pure h⟩) htake))
end
section
variable {X : Cx}
def tRevT (K : PySem.W.Frag) (te : TE) : TE := fun σ H Q => te σ H fun x H1 => ∃ a xs, x = .ref a ∧ SqT K H1 a xs ∧ ∀ p, H1 p = none → Q (.ref p) (upd H1 p (.tup xs.reverse))
theorem pe_revT {e : Expr} {te : TE} {k : Nat} {p1 p2 p3 pos : Pos} (he : PE X e te) : PE X (.Subscript e (.Slice none none (some (.UnaryOp .USub (.Constant (.int 1) k p1) p2)) p3) pos) (tRevT X.K te) := by
  refine ⟨fun pins s σ H Q I h => ?_⟩
  refine Subscript_ (thn (he.run pins s σ H _ I h) fun v s1 ⟨x, H1, I1, r1, q1⟩ => ?_)
  obtain ⟨a, xs, ex, hx, q⟩ := q1
  subst ex
  cases r1
  have hst : PO X (some (.UnaryOp .USub (.Constant (.int 1) k p1) p2)) (tPart (tUn (rU fun i => .int (-i)) (tC (.int 1)))) := po_some (pe_un un_neg pe_int)
  refine wpAny_Slice (thn (po_none.run pins s1 σ H1 (fun o H2 => o = none ∧ H2 = H1) I1 ⟨rfl, rfl⟩) fun vl s2 ⟨l, H2, I2, pl, el, e2⟩ => ?_)
  subst el e2
  refine thn (po_none.run pins s2 σ H2 (fun o H3 => o = none ∧ H3 = H2) I2 ⟨rfl, rfl⟩) fun vu s3 ⟨u, H3, I3, pu, eu, e3⟩ => ?_
  subst eu e3
  refine thn (hst.run pins s3 σ H3 (fun o H4 => o = some (-1) ∧ H4 = H3) I3 ⟨1, rfl, -1, rfl, rfl, rfl⟩) fun vs s4 ⟨o, H4, I4, ps, eo, e4⟩ => ?_
  subst eo e4
  have I5 : Inv X pins σ H4 { s4 with heap := s4.heap.push { cls := .type "slice", data := .fields #[vl, vu, vs] } } := I4.kept (t' := s4.toks) fun b ob q => Heap.get?_push_of_some _ q
  obtain ⟨its, r, ht, hz⟩ := I5.tuple hx
  have hlen := r.length
  show wpAny (model X.prog X.w) X.A (subscriptTail e (.Slice none none (some (.UnaryOp .USub (.Constant (.int 1) k p1) p2)) p3) (.ref a) (.ref s4.heap.objs.size)) (EP X pins σ Q) X.xe { s4 with heap := s4.heap.push { cls := .type "slice", data := .fields #[vl, vu, vs] } }
  refine tail_any (ops := [.ref a, .ref s4.heap.objs.size]) ht.typeIs (PyProof.Rows.slot_tuple_getitem.lookup) ?_ (by with_unfolding_all rfl)
  refine getItem_tuple_rev ht (Heap.IsSliceOf.new _ vl vu vs) pl pu ps ?_ (by rw [List.size_toArray]; omega)
  refine ⟨.ref _, _, I5.laid (t' := s4.toks) (o := .tup xs.reverse) (fun b ob q => Heap.get?_push_of_some _ q) (Nat.le_refl _) ?_, rfl, q _ (I5.hok.fresh (Nat.le_refl _))⟩
  exact ⟨by rw [List.length_reverse]; exact hz, _, r.reverse, IsTup.new _ _⟩
end
section
variable {X : Cx} {W : WX} {e : Expr} {fe : EF} {pos p1 p2 p3 : Pos} {k : Nat}
@[simp] def gRevT : D → Mu → Res D := fun d μ => match d with
  | .tup xs => .val (.tup xs.reverse) μ
  | _ => .fail
theorem de_revT (he : DE X W e fe) : DE X W (.Subscript e (.Slice none none (some (.UnaryOp .USub (.Constant (.int 1) k p1) p2)) p3) pos) (eUn gRevT fe) := by
  obtain ⟨te, h1, h2⟩ := he
  refine ⟨_, pe_revT h1, ⟨fun {H0 S0 ad0 tmp ρ μ σ H Q} R k => ?_⟩⟩
  refine h2.run R ?_
  unfold eUn at k
  cases e1 : fe ρ μ with
  | fail => rw [e1] at k; exact k.elim
  | exc x μ1 => rw [e1] at k; exact k
  | val d μ1 =>
    rw [e1] at k
    simp only [bind_val] at k
    intro v H1 R1
    unfold gRevT at k
    split at k
    · rename_i xs
      obtain ⟨S, ad, c, r⟩ := R1.one
      cases r with
      | tup hs r =>
        refine ⟨_, _, rfl, .inl (.inl (c.sh _ _ hs)), fun p hp => k _ _ ⟨_, ad, (c.stab hp _).push (.tup upd_same (r.reverse.mono (same_new (c.fresh hp).1) adp_refl))⟩⟩
    · exact k.elim
end
theorem mapD_rev {α : Type} {f : α → D} {zs : List α} : (mapD f zs).reverse = mapD f zs.reverse := (List.map_reverse ..).symm
end Dn

/-! Dn8: + of tuples that may be empty, tuple * 0 or 1, lists made by + and * as cells, loops by a measure. -/
namespace Dn
open PySem PySem.Spec PyProof.Rows L2
noncomputable section
theorem tuple_mul0 (l : Addr) (items : Array Value) (n : Nat) (dd : Option Addr) (sl : Array (Option Value)) (x : Int) (u : Tok) (c0 : (decide (x < -(2 ^ 63)) || decide (x ≥ 2 ^ 63)) = false) (c1 : (items.isEmpty || x == 1) = false) (c2 : (decide (x ≤ 0) || items.isEmpty) = true) :
    Meets (Builtin.«tuple.__mul__» ⟨[.ref l, .int x u], []⟩) (fun _ R s => s.heap.get? l = some { cls := .type "tuple", dict := dd, data := .seq items n, slots := sl } ∧
      R (.ok (.ret (Value.ref s.heap.objs.size))) { s with heap := s.heap.push { cls := Value.type "tuple", data := Data.seq #[] }, toks := s.toks }) :=
  .of_wp fun prog w A R s h => by
    obtain ⟨hp, g, d, tk, os⟩ := s
    obtain ⟨hl, h⟩ := h
    have f1 := AutoSeq1.idx_int
    wp_walk using wpAny_loadPart' hl
    repeat (first
      | (refine wpAny_ite_false (decide_eq_false (by rw [c0]; exact Bool.false_ne_true)) ?_; wp_walk using wpAny_loadPart' hl)
      | (refine wpAny_ite_false (decide_eq_false (by rw [c1]; exact Bool.false_ne_true)) ?_; wp_walk using wpAny_loadPart' hl)
      | (refine wpAny_ite_true (decide_eq_true c2) ?_; wp_walk using wpAny_loadPart' hl)
      | (refine wpAny_ite_false (decide_eq_false (Nat.not_lt.mpr (Nat.zero_le _))) ?_; wp_walk using wpAny_loadPart' hl))
    exact ⟨_, rfl, h⟩
theorem tuple_mul1 (l : Addr) (items : Array Value) (n : Nat) (dd : Option Addr) (sl : Array (Option Value)) (u : Tok) :
    Meets (Builtin.«tuple.__mul__» ⟨[.ref l, .int 1 u], []⟩) (fun _ R s => s.heap.get? l = some { cls := .type "tuple", dict := dd, data := .seq items n, slots := sl } ∧
      R (.ok (.ret (Value.ref l))) s) :=
  .of_wp fun prog w A R s h => by
    obtain ⟨hp, g, d, tk, os⟩ := s
    obtain ⟨hl, h⟩ := h
    have f1 := AutoSeq1.idx_int
    have c1 : (items.isEmpty || (1 : Int) == 1) = true := by simp
    wp_walk using wpAny_loadPart' hl
    repeat (first
      | (refine wpAny_ite_false (decide_eq_false (by decide)) ?_; wp_walk using wpAny_loadPart' hl)
      | (refine wpAny_ite_true (decide_eq_true c1) ?_; wp_walk using wpAny_loadPart' hl))
    exact ⟨_, rfl, h⟩
def rRep01 (K : PySem.W.Frag) : R2 := fun x y H Q => ∃ l k xs, x = .ref l ∧ y = .int k ∧ SqT K H l xs ∧ xs ≠ [] ∧ (k = 0 ∨ k = 1) ∧ (k = 1 → Q (.ref l) H) ∧ (k = 0 → ∀ p, H p = none → Q (.ref p) (upd H p (.tup [])))
section
variable {X : Cx}
theorem op_rep01 : OpR X (binaryOp .Mult) (rRep01 X.K) := by
  intro pins s σ H x y v u Q I rx ry h
  obtain ⟨l, k, xs, rfl, rfl, hT, hne, hk, q1, q0⟩ := h
  cases rx
  obtain ⟨t, rfl⟩ := ry
  obtain ⟨its, r, ⟨⟨cls, dd, data, sl⟩, ho, hc, n, hd⟩, hs⟩ := I.tuple hT
  simp only at hc hd
  subst hc hd
  have hle : its.length = xs.length := r.length.symm
  have hn : its ≠ [] := fun e => hne (by
    rw [e] at hle
    exact List.eq_nil_of_length_eq_zero hle.symm)
  have hi : its.toArray.isEmpty = false := by
    cases its with
    | nil => exact absurd rfl hn
    | cons a b => rfl
  refine wpAny_binaryOp_repeat_ref (T := "tuple") (U := "int") (by decide) ⟨_, ho, rfl⟩ (fun s' => typeIs_int s' k t) noFill_tuple_mul F.fills_int_mul F.slot_int_rmul repeat_tuple F.slot_int_index.lookup
    (call_meets F.slot_int_rmul (typeIs_int s k t) F.entry_int_rmul (F.args_int_rmul_2 _ _) (int_rmul_tuple k t l its.toArray n dd sl)
      ⟨ho, rfl, ⟨_, ho, rfl⟩, ?_⟩)
  rcases hk with rfl | rfl
  · refine call_meets F.slot_tuple_mul ⟨_, ho, rfl⟩ F.entry_tuple_mul (F.args_tuple_mul_2 _ _) (tuple_mul0 l its.toArray n dd sl 0 t (by decide) (by rw [hi]; rfl) (by simp)) ⟨ho, ?_⟩
    refine ⟨.ref s.heap.objs.size, _, I.laid (t' := s.toks) (o := .tup []) (fun b ob q => Heap.get?_push_of_some _ q) (Nat.le_refl _) ?_, rfl, q0 rfl _ (I.hok.fresh (Nat.le_refl _))⟩
    exact ⟨by rw [sizeLine_eq]; exact Nat.zero_le _, [], .nil, IsTup.new _ _⟩
  · refine call_meets F.slot_tuple_mul ⟨_, ho, rfl⟩ F.entry_tuple_mul (F.args_tuple_mul_2 _ _) (tuple_mul1 l its.toArray n dd sl t) ⟨ho, ?_⟩
    exact ⟨.ref l, H, I, rfl, q1 rfl⟩
end
/-- t * n, t not empty, any n from nought -/
def gRepA : GF := fun d e μ => match d, e with
  | .tup (x :: xs), .int k => if k = 0 ∨ k = 1 then .val (.tup (if k = 0 then [] else x :: xs)) μ else .fail
  | _, _ => .fail
/-- t + u, either may be empty -/
def gCatA : GF := fun d e μ => match d, e with
  | .tup xs, .tup ys => if xs.length + ys.length ≤ 100000 then .val (.tup (xs ++ ys)) μ else .fail
  | _, _ => .fail
/-- lists as cells -/
def gCatN : GF := fun d e μ => match lsOf d μ, lsOf e μ with
  | some xs, some ys => if xs.length + ys.length ≤ 100000 then .val (.ref μ.length) (μ ++ [.lst (xs ++ ys)]) else .fail
  | _, _ => .fail
def gRepN : GF := fun d e μ => match lsOf d μ, e with
  | some xs, .int k => if Rng k ∧ xs.length * k.toNat ≤ 100000 then .val (.ref μ.length) (μ ++ [.lst (List.replicate k.toNat xs).flatten]) else .fail
  | _, _ => .fail
section
variable {K : PySem.W.Frag} {W : WX}
theorem simO_rep01 : SimO K W (rRep01 K) gRepA := ⟨fun {H0 S0 ad0 tmp ρ μ σ H Q x y d e} R k => by
  obtain ⟨S, ad, c, r1, r2⟩ := R.two
  unfold gRepA at k
  split at k
  · rename_i d0 ds n
    cases r1 with
    | tup h1 q1 =>
      cases r2
      split at k
      · rename_i hz
        rename_i a vs
        have l1 := q1.length
        rw [List.length_cons] at l1
        refine ⟨a, n, vs, rfl, rfl, .of (c.sh _ _ h1), fun z => by rw [z] at l1; simp at l1, hz, fun e => ?_, fun e p hp => ?_⟩
        · subst e
          exact k _ _ ⟨S, ad, c.push (.tup h1 q1)⟩
        · subst e
          exact k _ _ (newTup c .nil hp)
      · exact k.elim
  · exact k.elim⟩
theorem simO_catA : SimO K W (rCatA K) gCatA := ⟨fun {H0 S0 ad0 tmp ρ μ σ H Q x y d e} R k => by
  obtain ⟨S, ad, c, r1, r2⟩ := R.two
  unfold gCatA at k
  split at k
  · rename_i ds es
    cases r1 with
    | tup h1 q1 =>
      cases r2 with
      | tup h2 q2 =>
        rename_i a vs b ws
        split at k
        · rename_i hz
          refine ⟨a, b, vs, ws, rfl, rfl, .inl (.inl (c.sh _ _ h1)), .inl (.inl (c.sh _ _ h2)), sz_of (by rw [q1.length, q2.length]; exact hz), fun z => ?_, fun z z2 => ?_, fun z z2 p hp => k _ _ (newTup c (q1.append q2) hp)⟩
          · subst z
            cases q1
            exact k _ _ ⟨S, ad, c.push (.tup h2 q2)⟩
          · subst z2
            cases q2
            rw [List.append_nil] at k
            exact k _ _ ⟨S, ad, c.push (.tup h1 q1)⟩
        · exact k.elim
  · exact k.elim⟩
theorem simO_catN : SimO K W rCat gCatN := ⟨fun {H0 S0 ad0 tmp ρ μ σ H Q x y d e} R k => by
  obtain ⟨S, ad, c, r1, r2⟩ := R.two
  unfold gCatN at k
  split at k
  · rename_i xs ys h1 h2
    split at k
    · rename_i hz
      obtain ⟨a, vs, rfl, e1, q1⟩ := lsOf_at c r1 h1
      obtain ⟨b, ws, rfl, e2, q2⟩ := lsOf_at c r2 h2
      exact ⟨a, b, vs, ws, rfl, rfl, e1, e2, sz_of (by rw [q1.length, q2.length]; exact hz), fun p hp => k _ _ (newCell c (q1.append q2) hp)⟩
    · exact k.elim
  · exact k.elim⟩
theorem simO_repN : SimO K W rRep gRepN := ⟨fun {H0 S0 ad0 tmp ρ μ σ H Q x y d e} R k => by
  obtain ⟨S, ad, c, r1, r2⟩ := R.two
  unfold gRepN at k
  split at k
  · rename_i xs n h1
    split at k
    · rename_i hz
      cases r2
      obtain ⟨a, vs, rfl, e1, q1⟩ := lsOf_at c r1 h1
      exact ⟨a, n, vs, rfl, rfl, e1, by have := hz.1.lo; omega, by have := hz.1.hi; omega, sz_of (by rw [q1.length]; exact hz.2), fun p hp => k _ _ (newCell c (rep_rp q1 n.toNat) hp)⟩
    · exact k.elim
  · exact k.elim⟩
end
def gAddA : GF := orG (gI fun i j => .int (i + j)) (orG gCatS (orG gCat gCatA))
def gMulA : GF := orG gMulI (orG gRepL (orG gRepT gRepA))
section
variable {X : Cx} {W : WX}
theorem oo_addA : OpO X W .Add gAddA := ⟨_, op_add.or (op_add_str.or (op_cat.or op_catA)), (simO_I0 fun i j => flat_int _).or (simO_catS.or (simO_cat.or simO_catA))⟩
theorem oo_mulA : OpO X W .Mult gMulA := ⟨_, op_mulX.or (op_rep.or (op_repT.or op_rep01)), (simO_I (fun _ _ h => mulOk_ok h) fun i j => flat_int _).or (simO_repL.or (simO_repT.or simO_rep01))⟩
theorem oo_addN : OpO X W .Add gCatN := ⟨_, op_cat, simO_catN⟩
theorem oo_mulN : OpO X W .Mult gRepN := ⟨_, op_rep, simO_repN⟩
end
section
variable {i j : Int} {μ : Mu} {xs ys : List D} {x : D}
@[simp] theorem gAddA_int : gAddA (.int i) (.int j) μ = .val (.int (i + j)) μ := rfl
theorem gAddA_tup (h : xs.length + ys.length ≤ 100000) : gAddA (.tup xs) (.tup ys) μ = .val (.tup (xs ++ ys)) μ := by
  simp [gAddA, orG, gI, gCatS, gCat, lsOf, gCatA, h]
theorem gMulA_small (h1 : -(2 ^ 64) < i) (h2 : i < 2 ^ 64) (h3 : -(2 ^ 64) < j) (h4 : j < 2 ^ 64) : gMulA (.int i) (.int j) μ = .val (.int (i * j)) μ := by
  unfold gMulA orG gMulI gIc
  simp only [if_pos (mulOk_small h1 h2 h3 h4)]
theorem gMulA_ok (h : MulOk i j) : gMulA (.int i) (.int j) μ = .val (.int (i * j)) μ := by
  unfold gMulA orG gMulI gIc
  simp only [if_pos h]
@[simp] theorem gMulA_t0 : gMulA (.tup (x :: xs)) (.int 0) μ = .val (.tup []) μ := by
  simp [gMulA, orG, gMulI, gIc, gRepL, lsOf, gRepT, gRepA]
@[simp] theorem gMulA_t1 : gMulA (.tup (x :: xs)) (.int 1) μ = .val (.tup (x :: xs)) μ := by
  simp [gMulA, orG, gMulI, gIc, gRepL, lsOf, gRepT, gRepA]
end
/-! while by a measure -/
/-- as many turns as one can wish for; nothing unfolds it -/
theorem fuelP : ∃ n : Nat, 1000000000 ≤ n := ⟨1000000000, Nat.le_refl _⟩
noncomputable def FUEL : Nat := Classical.choose fuelP
theorem lt_fuel {n : Nat} (h : n < 1000000000) : n < FUEL := Nat.lt_of_lt_of_le h (Classical.choose_spec fuelP)
def wturn (c : TF) (b : SF) (ρ : Ro) (μ : Mu) : Out := match c ρ μ with
  | .val true μ1 => b ρ μ1
  | .val false μ1 => .bk ρ μ1
  | .exc x μ1 => .exc x ρ μ1
  | .fail => .fail
theorem whileN_turn (c : TF) (b : SF) (n : Nat) (ρ : Ro) (μ : Mu) : whileN c b (n + 1) ρ μ = match wturn c b ρ μ with
      | .nx ρ2 μ2 => whileN c b n ρ2 μ2
      | .ct ρ2 μ2 => whileN c b n ρ2 μ2
      | .bk ρ2 μ2 => .nx ρ2 μ2
      | .ret d μ2 => .ret d μ2
      | .exc x ρ2 μ2 => .exc x ρ2 μ2
      | .fail => .fail := by
  unfold wturn
  rw [whileN]
  cases c ρ μ with
  | val t μ1 => cases t <;> rfl
  | exc x μ1 => rfl
  | fail => rfl
theorem whileN_ends {c : TF} {b : SF} {B : Ro → Mu → Prop} {R : D → Mu → Prop} (I : Nat → Ro → Mu → Prop) (hs : ∀ (n : Nat) (ρ : Ro) (μ : Mu), I n ρ μ → Ends3 (fun ρ' μ' => ∃ m, m < n ∧ I m ρ' μ') B R (wturn c b ρ μ)) :
    ∀ (N n : Nat) (ρ : Ro) (μ : Mu), n < N → I n ρ μ → LoopEnds B R (whileN c b N ρ μ)
  | 0, n, ρ, μ, h, _ => absurd h (Nat.not_lt_zero n)
  | N + 1, n, ρ, μ, h, hI => by
    have k := hs n ρ μ hI
    rw [whileN_turn]
    cases e : wturn c b ρ μ with
    | nx ρ2 μ2 => rw [e] at k; obtain ⟨m, hm, k⟩ := k; exact whileN_ends I hs N m ρ2 μ2 (by omega) k
    | ct ρ2 μ2 => rw [e] at k; obtain ⟨m, hm, k⟩ := k; exact whileN_ends I hs N m ρ2 μ2 (by omega) k
    | bk ρ2 μ2 => rw [e] at k; exact k
    | ret d2 μ2 => rw [e] at k; exact k
    | exc x ρ2 μ2 => rw [e] at k; exact k.elim
    | fail => rw [e] at k; exact k.elim
/-- a while that no return leaves -/
theorem whileN_nx {c : TF} {b : SF} {B : Ro → Mu → Prop} (I : Nat → Ro → Mu → Prop) {N n : Nat} {ρ : Ro} {μ : Mu} (hn : n < N) (h0 : I n ρ μ) (hs : ∀ (n : Nat) (ρ : Ro) (μ : Mu), I n ρ μ → Ends3 (fun ρ' μ' => ∃ m, m < n ∧ I m ρ' μ') B (fun _ _ => False) (wturn c b ρ μ)) :
    ∃ ρ' μ', whileN c b N ρ μ = .nx ρ' μ' ∧ B ρ' μ' := by
  have h := whileN_ends I hs N n ρ μ hn h0
  cases e : whileN c b N ρ μ with
  | nx ρ' μ' => rw [e] at h; exact ⟨ρ', μ', rfl, h⟩
  | _ => rw [e] at h; exact h.elim
end
end Dn

/-! Dn9: a, b = a list. -/
namespace PyProof.Rows
open PySem
section
variable {prog : Program} {w : World} {A : Around} {E : Value → Shared → Prop} {s : Shared}
theorem draw_list {it t : Addr} {items : Array Value} (hne : t ≠ it) : ∀ (n i : Nat) (s : Shared) (Q : List Value → Shared → Prop), s.heap.IsListIter it t i → s.heap.IsList t items → i + n ≤ items.size →
    (∀ h' : Heap, h'.IsListIter it t (i + n) → Heap.SameBut it s.heap h' → Q ((items.toList.drop i).take n) { s with heap := h' }) → wpAny (model prog w) A (draw (.ref it) n) Q E s
  | 0, i, s, Q, hit, _, _, hQ => by
    show wpAny _ _ (pure []) Q E s
    exact wpAny_pure (by simpa using hQ s.heap hit (Heap.SameBut.refl ..))
  | n + 1, i, s, Q, hit, ht, hle, hQ => by
    have hlt : i < items.size := by omega
    show wpAny _ _ (pyNext (.ref it) >>= _) Q E s
    refine wpAny_bind (wpAny_pyNext_list_item hit ht (x := items[i]) (by simp [hlt]) fun h₁ hit₁ hs₁ => ?_)
    refine wpAny_bind (wpAny_holding (draw_list hne n (i + 1) _ _ hit₁ (ht.extBut hs₁.extBut hne) (by omega) fun h₂ hit₂ hs₂ => wpAny_pure ?_))
    have hd : items.toList.drop i = items[i] :: items.toList.drop (i + 1) := by simp [List.drop_eq_getElem_cons, hlt]
    have := hQ h₂ (by rw [show i + (n + 1) = i + 1 + n by omega]; exact hit₂) (hs₁.trans hs₂)
    rw [hd, List.take_succ_cons] at this
    exact this
theorem unpackItems_list {t : Addr} {items : Array Value} {Q : List Value → Shared → Prop} (hh : A.handled = none) (ht : s.heap.IsList t items)
    (hQ : ∀ h', Heap.ExtBut s.heap.objs.size s.heap h' → Q items.toList { s with heap := h' }) : wpAny (model prog w) A (unpackItems (.ref t) items.size none) Q E s := by
  have hlt : t ≠ s.heap.objs.size := by obtain ⟨o, ho, _⟩ := ht; exact Nat.ne_of_lt (Heap.lt_size ho)
  unfold unpackItems
  refine wpAny_bind ?_
  · unfold notIterableAtAll
    refine wpAny_bind (wpAny_specialOf ht.typeIs slot_list_iter.lookup ?_)
    refine wpAny_pure ?_
    simp only [Bool.false_eq_true, if_false]
    refine wpAny_bind (wpAny_holding (wpAny_pyIter_list ht ?_))
    refine wpAny_bind (wpAny_holding (draw_list hlt items.size 0 _ _ ⟨_, Heap.get?_push_size _ rfl, rfl, rfl⟩ (ht.push _) (by omega) fun h₁ hit₁ hs₁ => ?_))
    have hall : List.take items.size (List.drop 0 items.toList) = items.toList := by
      rw [List.drop_zero]; exact List.take_of_length_le (by simp)
    rw [hall]
    rw [if_neg (by simp)]
    have ht₁ : h₁.IsList t items := (ht.push _).extBut hs₁.extBut hlt
    refine wpAny_bind (wpAny_holding (wpAny_pyNext_list_end hh hit₁ ht₁ (by simp) fun h₂ he₂ => ?_))
    simp only [Option.isSome_none, Bool.false_eq_true, if_false]
    refine wpAny_pure (hQ h₂ fun b o hb e => he₂ b o hb (hs₁.extBut b o hb (Heap.get?_push_of_some _ e)))
theorem assign_Tuple_list {env : Env} {elts : List Expr} {x1} {pos : Pos} {t : Addr} {items : Array Value} {Q : Unit → Shared → Prop} (hh : A.handled = none) (ht : s.heap.IsList t items)
    (hn : (assignEach elts env).length = items.size) (hstar : (assignEach elts env).findIdx? (·.1) = none)
    (h : ∀ h', Heap.ExtBut s.heap.objs.size s.heap h' → wpAny (model prog w) A (assignInOrder ((assignEach elts env).map (·.2)) items.toList) Q E { s with heap := h' }) :
    wpAny (model prog w) A (assign (.Tuple elts x1 pos) env (.ref t)) Q E s := by
  rw [assign_Tuple]
  refine wpAny_bind (wpAny_standAt ?_)
  unfold unpack
  rw [hn, hstar]
  exact wpAny_bind (wpAny_holding (unpackItems_list hh ht h))
end
end PyProof.Rows
namespace Dn
open PySem PySem.Spec PyProof.Rows L2
/-- (a, b, ..) = a tuple or a list of that length -/
def tTpA (K : PySem.W.Frag) (n : Nat) (t : TGs) : TG := fun v σ H Q => ∃ a xs, v = .ref a ∧ SqH K H a xs ∧ xs.length = n ∧ t xs σ H Q
section
variable {X : Cx} {W : WX} {es : List Expr} {t : TGs} {n : Nat} {pos : Pos}
theorem pg_tupA {k : Nat} (hc : X.calm = true) (h : PGs X es t)
    (hn : (assignEach es X.env).length = n := by rfl) (hst : (assignEach es X.env).findIdx? (·.1) = none := by rfl) : PG X (.Tuple es k pos) (tTpA X.K n t) := by
  refine ⟨fun pins s σ H v u Q I r hw => ?_⟩
  obtain ⟨a, xs, e1, hq | hq, hl, hw⟩ := hw
  · subst e1
    cases r
    obtain ⟨its, rv, ht, hz⟩ := I.list hq
    refine assign_Tuple_list (I.ok.hd hc) ht.isList (by simp [hn, ← hl, rv.length]) hst fun h' hx => ?_
    have I1 : Inv X pins σ H { s with heap := h' } := I.kept (t' := s.toks) fun b o e => hx b o (Nat.ne_of_lt (Heap.lt_size e)) e
    exact h.run pins _ σ H xs _ Q I1 (by simpa using rv) hw
  · subst e1
    cases r
    obtain ⟨its, rv, ht, hz⟩ := I.tuple hq
    refine assign_Tuple_tuple (I.ok.hd hc) ht (by simp [hn, ← hl, rv.length]) hst fun h' hx => ?_
    have I1 : Inv X pins σ H { s with heap := h' } := I.kept (t' := s.toks) fun b o e => hx b o (Nat.ne_of_lt (Heap.lt_size e)) e
    exact h.run pins _ σ H xs _ Q I1 (by simpa using rv) hw
end
@[simp] def gTpA (n : Nat) (g : GTs) : GT := fun d ρ μ => match sqOf d μ with
  | some ds => if ds.length = n then g ds ρ μ else none
  | none => none
theorem simG_tupA {K : PySem.W.Frag} {u : TGs} {g : GTs} {n : Nat} (hu : SimGs K u g) : SimG K (tTpA K n u) (gTpA n g) := ⟨fun {H0 S0 ad0 tmp ρ μ σ H Q v d ρ' μ'} R e h => by
  obtain ⟨S, ad, c, r⟩ := R.one
  unfold gTpA at e
  split at e
  · rename_i ds hs
    split at e
    · rename_i hn
      obtain ⟨a, vs, rfl, q, rr⟩ := sqOf_at c r hs
      refine ⟨a, vs, rfl, q, by rw [rr.length]; exact hn, hu.run rr.length ⟨S, ad, c.tmps fun p m => ?_⟩ e h⟩
      rcases List.mem_append.mp m with m | m
      · exact zip_rpL rr p m
      · exact c.tm p m
    · cases e
  · cases e⟩
theorem dg_tupA {X : Cx} {es : List Expr} {gs : GTs} {pos : Pos} {k : Nat} (n : Nat) (hc : X.calm = true) (h : DGs X es gs) (hn : (assignEach es X.env).length = n := by rfl) (hst : (assignEach es X.env).findIdx? (·.1) = none := by rfl) : DG X (.Tuple es k pos) (gTpA n gs) := by
  obtain ⟨_, p1, q1⟩ := h
  exact ⟨_, pg_tupA hc p1 hn hst, simG_tupA q1⟩
end Dn

/-! Dn10: what most laws draw: cells of a script, mixed ones; rows of None and ints. -/
namespace Dn
open PySem PySem.Spec PyProof.Rows L2
/-- a way -/
abbrev wayD (b : Int) (cs : List Int) : D := .tup [.int b, .tup (mapD D.int cs)]
/-- the script's item, nought behind it -/
def cellZ (ns : List Int) (k : Int) : Int := if k < ns.length then nth ns k.toNat else 0
def mixZ (c k : Int) : Int := (c + 7919 * k + 3) * (c + 7919 * k + 3) % 2147483647 * 48271 % 2147483647
theorem mixZ_b (c k : Int) : 0 ≤ mixZ c k ∧ mixZ c k < 2147483647 := by unfold mixZ; omega
/-- a cell of a script -/
def Cell (c : Int) : Prop := c.natAbs.log2 ≤ 1048580
theorem Cell.mix {c k : Int} (h : Cell c) (hk : -1000 ≤ k ∧ k ≤ 1000) : Big (c + 7919 * k + 3) := by
  have a := log2_add (k := 1048580) h (Nat.le_trans (log2_small (x := 7919 * k) (by omega) (by omega)) (by decide))
  have b := log2_add (k := 1048581) (y := 3) a (by decide)
  unfold Big
  omega
theorem cell_cell {ns : List Int} (hb : ∀ z ∈ ns, Builtin.Int.intBits z ≤ 1048576) (k : Int) : Cell (cellZ ns k) := by
  unfold Cell cellZ
  split
  · unfold nth
    rw [List.getD_eq_getElem?_getD]
    cases e : ns[k.toNat]? with
    | none => simp
    | some z => exact Nat.le_trans (intBits_log2 (hb z (List.mem_of_getElem? e))) (by decide)
  · simp
theorem kit_ii : kitB "int" "int" = some true := by decide +kernel
theorem kit_ib : kitB "int" "bool" = some false := by decide +kernel
theorem kit_tt : kitB "tuple" "tuple" = some true := by decide +kernel
theorem kit_ss : kitB "str" "str" = some true := by decide +kernel
theorem kit_ll : kitB "list" "list" = some true := by decide +kernel
theorem kit_dd : kitB "dict" "dict" = some true := by decide +kernel
theorem kit_bb : kitB "bool" "bool" = some true := by decide +kernel
theorem kit_bi : kitB "bool" "int" = some true := by decide +kernel
theorem pow12 (μ : Mu) : gPow (.int 10) (.int 12) μ = .val (.int 1000000000000) μ := by
  rw [gPow_ok (by decide) (by decide) (by decide) (by decide)]
  rfl
def oD : Option Int → D
  | none => .non
  | some z => .int z
@[simp] theorem oD_none : oD none = .non := rfl
@[simp] theorem oD_some {z : Int} : oD (some z) = .int z := rfl
@[simp] theorem oD_nf (z : Option Int) : nf (oD z) = true := by cases z <;> rfl
@[simp] theorem oD_fz (z : Option Int) (μ : Mu) : fz μ (oD z) = oD z := by cases z <;> simp
@[simp] theorem nfL_oD (zs : List (Option Int)) : nfL (mapD oD zs) = true := mapD_nf fun _ => by simp
@[simp] theorem fzL_oD {μ : Mu} (zs : List (Option Int)) : fzL μ (mapD oD zs) = mapD oD zs := mapD_fz fun _ => by simp
end Dn

/-! Dn11: dicts as cells. -/
namespace Dn
open PySem PySem.Spec PyProof.Rows L2
section
variable {κ : Type} [DecidableEq κ]
def valD (kvs : List (κ × D)) (k : κ) : Option D := (kvs.find? fun kv => decide (kv.1 = k)).map (·.2)
def putD (kvs : List (κ × D)) (k : κ) (d : D) : List (κ × D) :=
  if (kvs.any fun kv => decide (kv.1 = k)) = true then kvs.map (fun kv => if kv.1 = k then (kv.1, d) else kv) else kvs ++ [(k, d)]
def dropD (kvs : List (κ × D)) (k : κ) : List (κ × D) := kvs.filter fun kv => decide (kv.1 ≠ k)
variable {K : PySem.W.Frag} {S : Hp} {ad : Ad}
/-- a dict's pairs in the heap and as trees -/
inductive DR (K : PySem.W.Frag) (S : Hp) (ad : Ad) : List (κ × V) → List (κ × D) → Prop
  | nil : DR K S ad [] []
  | cons {k : κ} {v : V} {d : D} {ws : List (κ × V)} {kvs : List (κ × D)} : Rp K S ad v d → DR K S ad ws kvs → DR K S ad ((k, v) :: ws) ((k, d) :: kvs)
theorem DR.of : ∀ {ws : List (κ × V)} {kvs : List (κ × D)}, ws.map (·.1) = kvs.map (·.1) → RpL K S ad (ws.map (·.2)) (kvs.map (·.2)) → DR K S ad ws kvs
  | [], [], _, _ => .nil
  | (k, v) :: ws, (k', d) :: kvs, e, r => by
    rw [List.map_cons, List.map_cons] at e
    injection e with e1 e2
    have e1 : k = k' := e1
    subst e1
    cases r with
    | cons p t => exact .cons p (DR.of e2 t)
  | [], _ :: _, e, _ => by simp at e
  | _ :: _, [], e, _ => by simp at e
theorem DR.keys {ws : List (κ × V)} {kvs : List (κ × D)} (r : DR K S ad ws kvs) : ws.map (·.1) = kvs.map (·.1) := by
  induction r with
  | nil => rfl
  | cons p t ih => rw [List.map_cons, List.map_cons, ih]
theorem DR.vals {ws : List (κ × V)} {kvs : List (κ × D)} (r : DR K S ad ws kvs) : RpL K S ad (ws.map (·.2)) (kvs.map (·.2)) := by
  induction r with
  | nil => exact .nil
  | cons p t ih => exact .cons p ih
theorem DR.length {ws : List (κ × V)} {kvs : List (κ × D)} (r : DR K S ad ws kvs) : ws.length = kvs.length := by
  have := congrArg List.length r.keys
  simpa using this
theorem valD_pos {p : κ × D} {r : List (κ × D)} {k : κ} (e : p.1 = k) : valD (p :: r) k = some p.2 := by simp [valD, List.find?_cons, e]
theorem valD_neg {p : κ × D} {r : List (κ × D)} {k : κ} (e : ¬ p.1 = k) : valD (p :: r) k = valD r k := by simp [valD, List.find?_cons, e]
theorem DR.gets {ws : List (κ × V)} {kvs : List (κ × D)} (r : DR K S ad ws kvs) {k : κ} {d : D} : valD kvs k = some d → ∃ v, valV ws k = some v ∧ Rp K S ad v d := by
  induction r with
  | nil => intro h; cases h
  | @cons k' v d' ws kvs p t ih =>
    intro h
    by_cases e : k' = k
    · rw [valD_pos (p := (k', d')) e] at h
      cases h
      exact ⟨v, valV_pos (p := (k', v)) e, p⟩
    · rw [valD_neg (p := (k', d')) e] at h
      obtain ⟨u, h1, h2⟩ := ih h
      exact ⟨u, by rw [valV_neg (p := (k', v)) e]; exact h1, h2⟩
theorem DR.misses {ws : List (κ × V)} {kvs : List (κ × D)} (r : DR K S ad ws kvs) {k : κ} : valD kvs k = none → valV ws k = none := by
  induction r with
  | nil => intro _; rfl
  | @cons k' v d' ws kvs p t ih =>
    intro h
    by_cases e : k' = k
    · rw [valD_pos (p := (k', d')) e] at h; cases h
    · rw [valD_neg (p := (k', d')) e] at h
      rw [valV_neg (p := (k', v)) e]; exact ih h
theorem DR.any {ws : List (κ × V)} {kvs : List (κ × D)} (r : DR K S ad ws kvs) (k : κ) : (ws.any fun kv => decide (kv.1 = k)) = (kvs.any fun kv => decide (kv.1 = k)) := by
  induction r with
  | nil => rfl
  | cons p t ih => rw [List.any_cons, List.any_cons, ih]
theorem DR.app {ws ws' : List (κ × V)} {kvs kvs' : List (κ × D)} (r : DR K S ad ws kvs) (q : DR K S ad ws' kvs') : DR K S ad (ws ++ ws') (kvs ++ kvs') := by
  induction r with
  | nil => exact q
  | cons p t ih => exact .cons p ih
theorem DR.repl {ws : List (κ × V)} {kvs : List (κ × D)} (r : DR K S ad ws kvs) (k : κ) {v : V} {d : D} (h : Rp K S ad v d) : DR K S ad (ws.map fun kv => if kv.1 = k then (kv.1, v) else kv) (kvs.map fun kv => if kv.1 = k then (kv.1, d) else kv) := by
  induction r with
  | nil => exact .nil
  | @cons k' v' d' ws kvs p t ih =>
    rw [List.map_cons, List.map_cons]
    by_cases e : k' = k
    · rw [if_pos e, if_pos e]; exact .cons h ih
    · rw [if_neg e, if_neg e]; exact .cons p ih
theorem DR.put {ws : List (κ × V)} {kvs : List (κ × D)} (r : DR K S ad ws kvs) (k : κ) {v : V} {d : D} (h : Rp K S ad v d) : DR K S ad (putK ws k v) (putD kvs k d) := by
  unfold putK putD
  rw [r.any k]
  by_cases e : (kvs.any fun kv => decide (kv.1 = k)) = true
  · rw [if_pos e, if_pos e]; exact r.repl k h
  · rw [if_neg e, if_neg e]; exact r.app (.cons h .nil)
theorem DR.drop {ws : List (κ × V)} {kvs : List (κ × D)} (r : DR K S ad ws kvs) (k : κ) : DR K S ad (dropK ws k) (dropD kvs k) := by
  unfold dropK dropD
  induction r with
  | nil => exact .nil
  | @cons k' v' d' ws kvs p t ih =>
    by_cases e : k' = k
    · rw [List.filter_cons_of_neg (by simpa using e), List.filter_cons_of_neg (by simpa using e)]; exact ih
    · rw [List.filter_cons_of_pos (by simpa using e), List.filter_cons_of_pos (by simpa using e)]; exact .cons p ih
theorem DR.mono {S' : Hp} {ad' : Ad} {ws : List (κ × V)} {kvs : List (κ × D)} (e : Same S S') (p : ∀ (n : Nat) (a : Addr), ad[n]? = some a → ad'[n]? = some a) (r : DR K S ad ws kvs) : DR K S' ad' ws kvs := by
  induction r with
  | nil => exact .nil
  | cons h t ih => exact .cons (h.mono e p) ih
theorem DR.get {ws : List (κ × V)} {kvs : List (κ × D)} (r : DR K S ad ws kvs) : ∀ {i : Nat} {k : κ} {v : V}, ws[i]? = some (k, v) → ∃ d, kvs[i]? = some (k, d) ∧ Rp K S ad v d := by
  induction r with
  | nil => intro i k v h; simp at h
  | @cons k' v' d' ws kvs p t ih =>
    intro i k v h
    cases i with
    | zero => simp at h; obtain ⟨rfl, rfl⟩ := h; exact ⟨d', rfl, p⟩
    | succ i => simp at h; simpa using ih h
theorem putD_len (kvs : List (κ × D)) (k : κ) (d : D) : (putD kvs k d).length ≤ kvs.length + 1 := by
  unfold putD
  split
  · rw [List.length_map]; omega
  · rw [List.length_append]; exact Nat.le_refl _
end
/-! keys -/
@[simp] def kOf : D → Option Key
  | .int i => some (.inl i)
  | .str s => some (.inr s)
  | _ => none
@[simp] def kD : Key → D
  | .inl i => .int i
  | .inr s => .str s
@[simp] def ksOf : List D → Option (List Key)
  | [] => some []
  | d :: r => (kOf d).bind fun k => (ksOf r).map fun ks => k :: ks
section
variable {K : PySem.W.Frag} {S : Hp} {ad : Ad} {v : V} {d : D}
theorem kOf_at {k : Key} (r : Rp K S ad v d) (h : kOf d = some k) : v = kV k := by
  cases d <;> simp only [kOf] at h <;> first | cases h | skip
  all_goals (cases r; rfl)
theorem kD_rp (k : Key) : Rp K S ad (kV k) (kD k) := by
  cases k with
  | inl i => exact .int i
  | inr s => exact .str s
theorem ksD_rp : ∀ ks : List Key, RpL K S ad (ks.map kV) (ks.map kD)
  | [] => .nil
  | k :: r => .cons (kD_rp k) (ksD_rp r)
theorem ksOf_at : ∀ {ds : List D} {vs : List V} {ks : List Key}, RpL K S ad vs ds → ksOf ds = some ks → vs = ks.map kV
  | [], _, ks, r, h => by cases r; cases h; rfl
  | d :: ds, _, ks, r, h => by
    cases r with
    | cons p t =>
      simp only [ksOf, Option.bind_eq_some_iff, Option.map_eq_some_iff] at h
      obtain ⟨k, h1, ks', h2, rfl⟩ := h
      rw [kOf_at p h1, ksOf_at t h2]
      rfl
end
/-- what a dict's cell holds at a key -/
def dGet (μ : Mu) (n : Nat) (e : D) : Option (Option D) := match μ[n]? with
  | some (.dK kvs) => (kOf e).map (valD kvs)
  | some (.lkK _ _ kvs) => (kOf e).map (valD kvs)
  | some (.dT kvs) => (match e with
    | .tup ds => (ksOf ds).map (valD kvs)
    | _ => none)
  | some (.lkT _ _ kvs) => (match e with
    | .tup ds => (ksOf ds).map (valD kvs)
    | _ => none)
  | _ => none
section
variable {K : PySem.W.Frag} {W : WX} {H0 S0 : Hp} {ad0 : Ad} {S : Hp} {ad : Ad} {tmp : List (V × D)} {ρ : Ro} {μ : Mu} {σ : L2.St} {H : Hp} {u v : V} {d e : D}
theorem valD_at {κ : Type} [DecidableEq κ] {ws : List (κ × V)} {kvs : List (κ × D)} (r : DR K S ad ws kvs) (k : κ) : ∃ q : Option V, valV ws k = q ∧ (∀ d, valD kvs k = some d → ∃ v, q = some v ∧ Rp K S ad v d) ∧ (valD kvs k = none → q = none) :=
  ⟨_, rfl, fun d h => r.gets h, fun h => r.misses h⟩
theorem dGet_at {n : Nat} {a : Addr} {o : Option D} (c : Core K H0 S0 ad0 S ad tmp ρ μ σ H) (ha : ad[n]? = some a) (r : Rp K S ad u e) (h : dGet μ n e = some o) : ∃ q, DGet H a u q ∧ (∀ d, o = some d → ∃ v, q = some v ∧ Rp K S ad v d) ∧ (o = none → q = none) := by
  unfold dGet at h
  split at h
  · rename_i kvs hm
    obtain ⟨k, h1, rfl⟩ := Option.map_eq_some_iff.mp h
    obtain ⟨ws, g1, g2, g3⟩ := c.at_ n a _ ha hm
    obtain ⟨q, q1, q2, q3⟩ := valD_at (DR.of g2 g3) k
    exact ⟨q, .inl ⟨ws, k, .inl g1, kOf_at r h1, q1.symm⟩, q2, q3⟩
  · rename_i o ws kvs hm
    obtain ⟨k, h1, rfl⟩ := Option.map_eq_some_iff.mp h
    obtain ⟨g1, g2, g3⟩ := c.at_ n a _ ha hm
    obtain ⟨q, q1, q2, q3⟩ := valD_at (DR.of g2 g3) k
    exact ⟨q, .inl ⟨ws, k, .inr ⟨o, g1⟩, kOf_at r h1, q1.symm⟩, q2, q3⟩
  · rename_i kvs hm
    split at h
    · rename_i ds
      obtain ⟨k, h1, rfl⟩ := Option.map_eq_some_iff.mp h
      obtain ⟨ws, g1, g2, g3⟩ := c.at_ n a _ ha hm
      obtain ⟨q, q1, q2, q3⟩ := valD_at (DR.of g2 g3) k
      cases r with
      | tup hs hr =>
        have e1 := ksOf_at hr h1
        subst e1
        exact ⟨q, .inr ⟨ws, k, _, .inl g1, rfl, c.sh _ _ hs, q1.symm⟩, q2, q3⟩
    · cases h
  · rename_i o ws kvs hm
    split at h
    · rename_i ds
      obtain ⟨k, h1, rfl⟩ := Option.map_eq_some_iff.mp h
      obtain ⟨g1, g2, g3⟩ := c.at_ n a _ ha hm
      obtain ⟨q, q1, q2, q3⟩ := valD_at (DR.of g2 g3) k
      cases r with
      | tup hs hr =>
        have e1 := ksOf_at hr h1
        subst e1
        exact ⟨q, .inr ⟨ws, k, _, .inr ⟨o, g1⟩, rfl, c.sh _ _ hs, q1.symm⟩, q2, q3⟩
    · cases h
  · cases h
end
/-- d[k] -/
def gDix : GF := fun d e μ => match d with
  | .ref n => (match dGet μ n e with
    | some (some x) => .val x μ
    | _ => .fail)
  | _ => .fail
/-- k in d -/
def gDInF (f : Bool → Bool) : GF := fun e d μ => match d with
  | .ref n => (match dGet μ n e with
    | some o => .val (.bl (f o.isSome)) μ
    | _ => .fail)
  | _ => .fail
def gDIn : GF := gDInF id
def gDNotIn : GF := gDInF not
def rDIn (f : Bool → Bool) : R2 := fun y x H Q => ∃ a o, x = .ref a ∧ DGet H a y o ∧ Q (.bl (f o.isSome)) H
section
variable {K : PySem.W.Frag} {W : WX} {X : Cx}
theorem simO_dix : SimO K W (fun x y H Q => ∃ a v, x = .ref a ∧ DGet H a y (some v) ∧ Q v H) gDix := ⟨fun {H0 S0 ad0 tmp ρ μ σ H Q x y d e} R k => by
  obtain ⟨S, ad, c, r1, r2⟩ := R.two
  unfold gDix at k
  split at k
  · rename_i n
    split at k
    · rename_i z hz
      cases r1 with
      | ref ha =>
        rename_i a
        obtain ⟨q, g1, g2, _⟩ := dGet_at c ha r2 hz
        obtain ⟨v, rfl, rv⟩ := g2 _ rfl
        exact ⟨a, v, rfl, g1, k _ _ ⟨S, ad, c.push rv⟩⟩
    · exact k.elim
  · exact k.elim⟩
theorem simO_din (f : Bool → Bool) : SimO K W (rDIn f) (gDInF f) := ⟨fun {H0 S0 ad0 tmp ρ μ σ H Q x y d e} R k => by
  obtain ⟨S, ad, c, r1, r2⟩ := R.two
  unfold gDInF at k
  split at k
  · rename_i n
    split at k
    · rename_i o hz
      cases r2 with
      | ref ha =>
        rename_i a
        obtain ⟨q, g1, g2, g3⟩ := dGet_at c ha r1 hz
        have e : q.isSome = o.isSome := by
          cases o with
          | none => rw [g3 rfl]; rfl
          | some d => obtain ⟨v, rfl, _⟩ := g2 _ rfl; rfl
        refine ⟨a, q, rfl, g1, ?_⟩
        rw [e]
        exact k _ _ (c.flat (flat_bl _))
    · exact k.elim
  · exact k.elim⟩
theorem oc_din (hu : X.A.units + 1 < cLine) : CmO X W .In gDIn := ⟨rDIn id, fun pins s σ H x y v u Q I rx ry h => by
  obtain ⟨a, o, rfl, g, q⟩ := h
  cases ry
  exact d_in hu I g rx fun s3 I3 => ⟨.bl o.isSome, H, I3, rfl, q⟩, simO_din id⟩
theorem oc_dnotin (hu : X.A.units + 1 < cLine) : CmO X W .NotIn gDNotIn := ⟨rDIn not, fun pins s σ H x y v u Q I rx ry h => by
  obtain ⟨a, o, rfl, g, q⟩ := h
  cases ry
  exact d_notIn hu I g rx fun s3 I3 => ⟨.bl (!o.isSome), H, I3, rfl, q⟩, simO_din not⟩
variable {o i e f : Expr} {fo fi fe fx : EF} {pos apos cpos : Pos}
theorem de_dix (hu : X.A.units + 1 < cLine) (ho : DE X W o fo) (hi : DE X W i fi) (hs : NoSl i := by intro _ _; rfl) : DE X W (.Subscript o i pos) (eOp gDix fo fi) :=
  let ⟨_, p1, q1⟩ := ho; let ⟨_, p2, q2⟩ := hi; ⟨_, pe_dget hu p1 p2 hs, simE_op q1 q2 simO_dix⟩
end
/-! d[k] = v -/
def dPut (μ : Mu) (n : Nat) (e v : D) : Option Mu := match μ[n]? with
  | some (.dK kvs) => (kOf e).bind fun k => if kvs.length < 100000 then some (μ.set n (.dK (putD kvs k v))) else none
  | some (.dT kvs) => (match e with
    | .tup ds => (ksOf ds).bind fun k => if kvs.length < 100000 then some (μ.set n (.dT (putD kvs k v))) else none
    | _ => none)
  | _ => none
def gDSet (o i : EF) : GT := fun d ρ μ => match o ρ μ with
  | .val (.ref n) μ1 => (match i ρ μ1 with
    | .val e μ2 => (dPut μ2 n e d).map fun μ3 => (ρ, μ3)
    | _ => none)
  | _ => none
def rSetD : TSet := fun o i v H Q => ∃ a H', o = .ref a ∧ DPut H a i v H' ∧ Q H'
theorem set_dict {X : Cx} (hu : X.A.units + 1 < cLine) : PSet X rSetD := fun pins s σ H o i v ov iv u Q I ro ri rv h => by
  obtain ⟨a, H', rfl, g, q⟩ := h
  cases ro
  exact d_setItem hu I g ri rv fun s4 I4 => ⟨H', I4, q⟩
section
variable {K : PySem.W.Frag} {W : WX} {H0 S0 : Hp} {ad0 : Ad} {S : Hp} {ad : Ad} {tmp : List (V × D)} {ρ : Ro} {μ μ' : Mu} {σ : L2.St} {H : Hp} {u v : V} {d e : D}
theorem NdAt.dr {a : Addr} {kvs : List (Key × D)} (h : NdAt K S ad H a (.dK kvs)) : ∃ ws, H a = some (.dK ws) ∧ DR K S ad ws kvs := let ⟨ws, h1, h2, h3⟩ := h; ⟨ws, h1, .of h2 h3⟩
theorem NdAt.drT {a : Addr} {kvs : List (List Key × D)} (h : NdAt K S ad H a (.dT kvs)) : ∃ ws, H a = some (.dT ws) ∧ DR K S ad ws kvs := let ⟨ws, h1, h2, h3⟩ := h; ⟨ws, h1, .of h2 h3⟩
theorem wrDK {n : Nat} {a : Addr} {kvs : List (Key × D)} {ws : List (Key × V)} (c : Core K H0 S0 ad0 S ad tmp ρ μ σ H) (ha : ad[n]? = some a) (r : DR K S ad ws kvs) : Core K H0 S0 ad0 S ad tmp ρ (μ.set n (.dK kvs)) σ (upd H a (.dK ws)) := c.wr ha ⟨ws, upd_same, r.keys, r.vals⟩
theorem wrDT {n : Nat} {a : Addr} {kvs : List (List Key × D)} {ws : List (List Key × V)} (c : Core K H0 S0 ad0 S ad tmp ρ μ σ H) (ha : ad[n]? = some a) (r : DR K S ad ws kvs) : Core K H0 S0 ad0 S ad tmp ρ (μ.set n (.dT kvs)) σ (upd H a (.dT ws)) := c.wr ha ⟨ws, upd_same, r.keys, r.vals⟩
theorem dPut_at {n : Nat} {a : Addr} (c : Core K H0 S0 ad0 S ad tmp ρ μ σ H) (ha : ad[n]? = some a) (r : Rp K S ad u e) (rv : Rp K S ad v d) (h : dPut μ n e d = some μ') : ∃ H', DPut H a u v H' ∧ Core K H0 S0 ad0 S ad tmp ρ μ' σ H' := by
  unfold dPut at h
  split at h
  · rename_i kvs hm
    obtain ⟨k, h1, h⟩ := Option.bind_eq_some_iff.mp h
    split at h
    · rename_i hl
      cases h
      obtain ⟨ws, g1, g2⟩ := (c.at_ n a _ ha hm).dr
      exact ⟨_, .inl ⟨ws, k, g1, kOf_at r h1, by rw [g2.length]; exact sz_lt hl, rfl⟩, wrDK c ha (g2.put k rv)⟩
    · cases h
  · rename_i kvs hm
    split at h
    · rename_i ds
      obtain ⟨k, h1, h⟩ := Option.bind_eq_some_iff.mp h
      split at h
      · rename_i hl
        cases h
        obtain ⟨ws, g1, g2⟩ := (c.at_ n a _ ha hm).drT
        cases r with
        | tup hs hr =>
          have e1 := ksOf_at hr h1
          subst e1
          exact ⟨_, .inr ⟨ws, k, _, g1, rfl, c.sh _ _ hs, by rw [g2.length]; exact sz_lt hl, rfl⟩, wrDT c ha (g2.put k rv)⟩
      · cases h
    · cases h
  · cases h
theorem simG_dset {to ti : TE} {fo fi : EF} (ho : SimE K W0 to fo) (hi : SimE K W0 ti fi) : SimG K (L2.gSub to ti rSetD) (gDSet fo fi) := ⟨fun {H0 S0 ad0 tmp ρ μ σ H Q v d ρ' μ'} R e k => by
  refine ho.run R ?_
  unfold gDSet at e
  split at e
  · rename_i n μ1 e1
    rw [e1]
    intro w H1 R1
    refine hi.run R1 ?_
    split at e
    · rename_i kk μ2 e2
      rw [e2]
      intro z H2 R2
      obtain ⟨μ3, e3, e4⟩ := Option.map_eq_some_iff.mp e
      cases e4
      obtain ⟨S, ad, c⟩ := R2
      have r2 := c.hd
      have r1 := c.pop.hd
      have r0 := c.pop.pop.hd
      cases r1 with
      | ref ha =>
        rename_i a
        obtain ⟨H', g1, g2⟩ := dPut_at c.pop.pop.pop ha r2 r0 e3
        exact ⟨a, H', rfl, g1, k _ _ ⟨S, ad, g2⟩⟩
    · cases e
  · cases e⟩
end
theorem dg_dset {X : Cx} {o i : Expr} {fo fi : EF} {pos : Pos} (hu : X.A.units + 1 < cLine) (ho : DE X W0 o fo) (hi : DE X W0 i fi) (ha : ∀ v, assign (.Subscript o i pos) X.env v = (do
      let ov ← holding [v] (eval o X.env)
      let iv ← holding [v, ov] (eval i X.env)
      standAt pos
      holding [v, ov, iv] (setItem ov iv v)
      release [v, ov, iv] []) := by intro _; rfl) : DG X (.Subscript o i pos) (gDSet fo fi) := let ⟨_, p1, q1⟩ := ho; let ⟨_, p2, q2⟩ := hi; ⟨_, pg_sub p1 p2 (set_dict hu) ha, simG_dset q1 q2⟩
/-! {}, displays -/
def eNewK : EF := fun _ μ => .val (.ref μ.length) (μ ++ [.dK []])
def eNewT : EF := fun _ μ => .val (.ref μ.length) (μ ++ [.dT []])
section
variable {K : PySem.W.Frag} {W : WX} {H0 S0 : Hp} {ad0 : Ad} {S : Hp} {ad : Ad} {tmp : List (V × D)} {ρ : Ro} {μ μ' : Mu} {σ : L2.St} {H : Hp} {u v : V} {d e : D} {X : Cx} {pos : Pos}
theorem newC {x : Nd} {p : Addr} {o : HO} (c : Core K H0 S0 ad0 S ad tmp ρ μ σ H) (h : H p = none) (hx : NdAt K S (ad ++ [p]) (upd H p o) p x) : Rel K H0 S0 ad0 ((.ref p, .ref μ.length) :: tmp) ρ (μ ++ [x]) σ (upd H p o) :=
  ⟨_, _, (c.cell h hx).push (.ref (by rw [← c.al, List.getElem?_append_right (Nat.le_refl _)]; simp))⟩
theorem de_newK : DE X W (.Dict [] [] pos) eNewK := ⟨_, pe_dnewK, ⟨fun {H0 S0 ad0 tmp ρ μ σ H Q} R k p hp => by
  obtain ⟨S, ad, c⟩ := R
  exact k _ _ (newC c hp ⟨[], upd_same, rfl, .nil⟩)⟩⟩
theorem de_newT : DE X W (.Dict [] [] pos) eNewT := ⟨_, pe_dnewT, ⟨fun {H0 S0 ad0 tmp ρ μ σ H Q} R k p hp => by
  obtain ⟨S, ad, c⟩ := R
  exact k _ _ (newC c hp ⟨[], upd_same, rfl, .nil⟩)⟩⟩
end
end Dn

/-! Dn12: walks of dicts, ==, methods, displays with tuple keys. -/
namespace Dn
open PySem PySem.Spec PyProof.Rows L2
open Classical in
noncomputable def forK (n : Nat) (x : Nd) (g : GT) (b : SF) : List D → Ro → Mu → Out
  | [], ρ, μ => if μ[n]? = some x then .nx ρ μ else .fail
  | d :: ds, ρ, μ => if μ[n]? = some x then (match g d ρ μ with
    | none => .fail
    | some p => match b p.1 p.2 with
      | .nx ρ2 μ2 => forK n x g b ds ρ2 μ2
      | .ct ρ2 μ2 => forK n x g b ds ρ2 μ2
      | .bk ρ2 μ2 => if μ2[n]? = some x then .nx ρ2 μ2 else .fail
      | .ret d μ2 => if μ2[n]? = some x then .ret d μ2 else .fail
      | _ => .fail) else .fail
/-- what the heap has of a dict that is walked -/
structure Gh where
  o : Obj
  ws : List (Key × V)
  wT : List (List Key × V)
def gh0 : Gh := ⟨{ cls := .none, data := .dict #[] }, [], []⟩
/-- which walk -/
inductive Wk where
  | keys | items
def lkN (w : Wk) (h : Gh) : Nd → Option (Nd × List D)
  | .dK kvs => (match w with
    | .keys => some (.lkK h.o h.ws kvs, kvs.map fun p => kD p.1)
    | .items => some (.lkK h.o h.ws kvs, kvs.map fun p => .tup [kD p.1, p.2]))
  | .dT kvs => (match w with
    | .keys => some (.lkT h.o h.wT kvs, kvs.map fun p => .tup (p.1.map kD))
    | .items => none)
  | _ => none
noncomputable def runK (w : Wk) (f : EF) (g : GT) (b : SF) (n : Nat) (x : Nd) (ρ : Ro) (μ : Mu) (h : Gh) : Out := match lkN w h x with
  | some (y, ds) => (match f ρ (μ.set n y) with
    | .val (.ref m) μ2 => if m = n then (match forK n y g b ds ρ μ2 with
      | .nx ρ3 μ3 => .nx ρ3 (μ3.set n x)
      | .ret d μ3 => .ret d (μ3.set n x)
      | _ => .fail) else .fail
    | _ => .fail)
  | none => .fail
open Classical in
noncomputable def sForK (w : Wk) (f : EF) (g : GT) (b : SF) : SF := fun ρ μ => match f ρ μ with
  | .val (.ref n) _ => (match μ[n]? with
    | some x => if ∀ h, runK w f g b n x ρ μ h = runK w f g b n x ρ μ gh0 then runK w f g b n x ρ μ gh0 else .fail
    | none => .fail)
  | _ => .fail
theorem sForK_eq {w : Wk} {f : EF} {g : GT} {b : SF} {n : Nat} {x : Nd} {ρ : Ro} {μ μ1 : Mu} {o : Out} (hf : f ρ μ = .val (.ref n) μ1) (hx : μ[n]? = some x) (h : ∀ h, runK w f g b n x ρ μ h = o) : sForK w f g b ρ μ = o := by
  unfold sForK
  rw [hf]
  simp only [hx]
  rw [if_pos fun z => (h z).trans (h gh0).symm, h gh0]
section
variable {K : PySem.W.Frag} {W : WX} {H0 S0 : Hp} {ad0 : Ad} {S : Hp} {ad : Ad} {tmp : List (V × D)} {ρ : Ro} {μ : Mu} {σ : L2.St} {H Hl : Hp}
/-- a walk's steps, while the dict is locked -/
def JK (K : PySem.W.Frag) (Hl S : Hp) (ad : Ad) (J : It) (n : Nat) (y : Nd) (ds : List D) : Prop :=
  ∀ {tmp : List (V × D)} {ρ : Ro} {μ : Mu} {σ : L2.St} {H : Hp}, Rel K Hl S ad tmp ρ μ σ H → μ[n]? = some y → ∀ i : Nat,
    (∀ d, ds[i]? = some d → J.go i H ∧ ∀ x H', J.yld i H x H' → Rel K Hl S ad ((x, d) :: tmp) ρ μ σ H') ∧ (ds.length ≤ i → J.stop i H)
theorem jk_keysK {n : Nat} {a : Addr} {o : Obj} {ws : List (Key × V)} {kvs : List (Key × D)} (ha : ad[n]? = some a) : JK K Hl S ad (Itk a o ws) n (.lkK o ws kvs) (kvs.map fun p => kD p.1) := fun {tmp ρ μ σ H} R hy i => by
  obtain ⟨S', ad', c⟩ := R
  obtain ⟨h1, h2, h3⟩ := c.at_ n a _ (c.adp n a ha) hy
  have r := DR.of h2 h3
  refine ⟨fun d hd => ?_, fun hi => ⟨h1, by rw [r.length]; simpa using hi⟩⟩
  rw [List.getElem?_map] at hd
  obtain ⟨p, hp, rfl⟩ := Option.map_eq_some_iff.mp hd
  refine ⟨⟨h1, by rw [r.length]; exact (List.getElem?_eq_some_iff.mp hp).1⟩, ?_⟩
  rintro x H' ⟨rfl, k, v, hk, rfl⟩
  obtain ⟨d', g1, _⟩ := r.get hk
  rw [hp] at g1
  cases g1
  exact ⟨S', ad', c.push (kD_rp k)⟩
theorem jk_itemsK {n : Nat} {a : Addr} {o : Obj} {ws : List (Key × V)} {kvs : List (Key × D)} (ha : ad[n]? = some a) : JK K Hl S ad (Iti a o ws) n (.lkK o ws kvs) (kvs.map fun p => .tup [kD p.1, p.2]) := fun {tmp ρ μ σ H} R hy i => by
  obtain ⟨S', ad', c⟩ := R
  obtain ⟨h1, h2, h3⟩ := c.at_ n a _ (c.adp n a ha) hy
  have r := DR.of h2 h3
  refine ⟨fun d hd => ?_, fun hi => ⟨h1, by rw [r.length]; simpa using hi⟩⟩
  rw [List.getElem?_map] at hd
  obtain ⟨p, hp, rfl⟩ := Option.map_eq_some_iff.mp hd
  refine ⟨⟨h1, by rw [r.length]; exact (List.getElem?_eq_some_iff.mp hp).1⟩, ?_⟩
  rintro x H' ⟨T, k, v, hk, rfl, hT, rfl⟩
  obtain ⟨d', g1, g2⟩ := r.get hk
  rw [hp] at g1
  cases g1
  exact newTup c (.cons (kD_rp k) (.cons g2 .nil)) hT
theorem jk_keysT {n : Nat} {a : Addr} {o : Obj} {ws : List (List Key × V)} {kvs : List (List Key × D)} (ha : ad[n]? = some a) : JK K Hl S ad (Itkt a o ws) n (.lkT o ws kvs) (kvs.map fun p => .tup (p.1.map kD)) := fun {tmp ρ μ σ H} R hy i => by
  obtain ⟨S', ad', c⟩ := R
  obtain ⟨h1, h2, h3⟩ := c.at_ n a _ (c.adp n a ha) hy
  have r := DR.of h2 h3
  refine ⟨fun d hd => ?_, fun hi => ⟨h1, by rw [r.length]; simpa using hi⟩⟩
  rw [List.getElem?_map] at hd
  obtain ⟨p, hp, rfl⟩ := Option.map_eq_some_iff.mp hd
  refine ⟨⟨h1, by rw [r.length]; exact (List.getElem?_eq_some_iff.mp hp).1⟩, ?_⟩
  rintro x H' ⟨rfl, k, v, q, hk, rfl, hq⟩
  obtain ⟨d', g1, _⟩ := r.get hk
  rw [hp] at g1
  cases g1
  exact ⟨_, ad', (c.tupS hq).push (.tup upd_same (ksD_rp k))⟩
/-- the loop, its dict locked -/
theorem forK_run {t : TG} {u : TS} {g : GT} {b : SF} {J : It} {n : Nat} {y : Nd} {ds : List D} {E : Ends} (jk : JK K Hl S ad J n y ds) (hg : SimG K t g) (hb : SimS K W u b) (R : Rel K Hl S ad tmp ρ μ σ H)
    (k : (match forK n y g b ds ρ μ with
      | .nx ρ2 μ2 => μ2[n]? = some y → ∀ σ H, Rel K Hl S ad tmp ρ2 μ2 σ H → E.nx σ H
      | .ret d μ2 => μ2[n]? = some y → ∀ v ρ σ H, Rel K Hl S ad ((v, d) :: tmp) ρ μ2 σ H → E.rt v H
      | _ => False)) (wi : TI) (hwi : ∀ R' : It → Hp → Prop, R' J H → wi σ H R') : tFor wi t u E σ H := by
  refine hwi _ ?_
  let P : Out → Prop := fun o => match o with
      | .nx ρ2 μ2 => μ2[n]? = some y → ∀ σ H, Rel K Hl S ad tmp ρ2 μ2 σ H → E.nx σ H
      | .ret d μ2 => μ2[n]? = some y → ∀ v ρ σ H, Rel K Hl S ad ((v, d) :: tmp) ρ μ2 σ H → E.rt v H
      | _ => False
  have k : P (forK n y g b ds ρ μ) := k
  refine ⟨fun i m σ H => m = ds.length - i ∧ i ≤ ds.length ∧ ∃ ρ μ, Rel K Hl S ad tmp ρ μ σ H ∧ P (forK n y g b (ds.drop i) ρ μ), ⟨ds.length, by simp, Nat.zero_le _, ρ, μ, R, k⟩, ?_⟩
  rintro i m σ H ⟨rfl, hi, ρ, μ, R, k⟩
  by_cases hlt : i < ds.length
  · rw [List.drop_eq_getElem_cons hlt] at k
    unfold forK at k
    by_cases hy : μ[n]? = some y
    · rw [if_pos hy] at k
      obtain ⟨go, yl⟩ := (jk R hy i).1 ds[i] (List.getElem?_eq_getElem hlt)
      refine .inr ⟨go, fun σ' H' => ∃ ρ μ, Rel K Hl S ad tmp ρ μ σ' H' ∧ P (forK n y g b (ds.drop (i + 1)) ρ μ), fun σ' H' ⟨ρ', μ', R', k'⟩ => ⟨ds.length - (i + 1), by omega, rfl, hlt, ρ', μ', R', k'⟩, fun x H' yy => ?_⟩
      have R2 := yl x H' yy
      cases e2 : g ds[i] ρ μ with
      | none => rw [e2] at k; exact k.elim
      | some p =>
        rw [e2] at k
        refine hg.run R2 e2 fun σ2 H2 R2 => hb.run (E := { E with nx := fun σ' H' => ∃ ρ μ, Rel K Hl S ad tmp ρ μ σ' H' ∧ P (forK n y g b (ds.drop (i + 1)) ρ μ), ct := fun σ' H' => ∃ ρ μ, Rel K Hl S ad tmp ρ μ σ' H' ∧ P (forK n y g b (ds.drop (i + 1)) ρ μ), bk := E.nx }) R2 ?_
        simp only at k
        cases e3 : b p.1 p.2 with
        | nx ρ2 μ2 => rw [e3] at k; exact fun σ' H' R' => ⟨ρ2, μ2, R', k⟩
        | ct ρ2 μ2 => rw [e3] at k; exact fun σ' H' R' => ⟨ρ2, μ2, R', k⟩
        | bk ρ2 μ2 =>
          rw [e3] at k
          simp only at k
          split at k
          · rename_i h; exact fun σ' H' R' => k h σ' H' R'
          · exact k.elim
        | ret d μ2 =>
          rw [e3] at k
          simp only at k
          split at k
          · rename_i h; exact fun v ρ' σ' H' R' => k h v ρ' σ' H' R'
          · exact k.elim
        | exc x ρ2 μ2 => rw [e3] at k; exact k.elim
        | fail => rw [e3] at k; exact k.elim
    · rw [if_neg hy] at k; exact k.elim
  · have e : i = ds.length := by omega
    subst e
    rw [List.drop_length] at k
    unfold forK at k
    split at k
    · rename_i h; exact .inl ⟨(jk R h _).2 (Nat.le_refl _), k h σ H R⟩
    · exact k.elim
/-- the whole statement: locked, walked, unlocked -/
theorem forK_lock {td : TE} {f : EF} {t : TG} {u : TS} {g : GT} {b : SF} {E : Ends} {n m : Nat} {a : Addr} {x y : Nd} {ub : HO} {ds : List D} {od : Obj} {Z : V → Hp → (It → Hp → Prop) → Prop} {J : It} {μ2 : Mu}
    (c : Core K H0 S0 ad0 S ad tmp ρ μ σ H) (ha : ad[n]? = some a) (hu : H a = some ub)
    (hat : NdAt K S ad (upd H a (.frz od ub)) a y) (hfr : ∀ {S' ad' H'}, NdAt K S' ad' H' a y → H' a = some (.frz od ub) ∧ NdAt K S' ad' (upd H' a ub) a x)
    (jk : JK K (upd H a (.frz od ub)) S ad J n y ds) (hg : SimG K t g) (hb : SimS K W u b) (he : SimE K W0 td f)
    (hZ : ∀ H1 (R' : It → Hp → Prop), H1 a = some (.frz od ub) → R' J H1 → Z (.ref a) H1 R')
    (ef : f ρ (μ.set n y) = .val (.ref n) μ2)
    (k : PostS K W H0 S0 ad0 tmp E (match forK n y g b ds ρ μ2 with
      | .nx ρ3 μ3 => .nx ρ3 (μ3.set n x)
      | .ret d μ3 => .ret d (μ3.set n x)
      | _ => .fail)) :
    tFor (fun σ H R' => td σ H fun v H1 => Z v H1 R') t u ⟨fun σ' H' => H' a = some (.frz od ub) ∧ E.nx σ' (upd H' a ub), fun v H' => H' a = some (.frz od ub) ∧ E.rt v (upd H' a ub), fun σ' H' => H' a = some (.frz od ub) ∧ E.bk σ' (upd H' a ub), fun σ' H' => H' a = some (.frz od ub) ∧ E.ct σ' (upd H' a ub)⟩ σ (upd H a (.frz od ub)) := by
  have cl := c.wr ha hat
  have R1 : Rel K (upd H a (.frz od ub)) S ad tmp ρ (μ.set n y) σ (upd H a (.frz od ub)) := ⟨S, ad, cl.here⟩
  refine he.run R1 ?_
  rw [ef]
  intro v H1 R2
  obtain ⟨S2, ad2, c2⟩ := R2
  have rv := c2.hd
  cases rv with
  | ref hv =>
    rw [c2.adp n a ha] at hv
    cases hv
    by_cases hy : μ2[n]? = some y
    · refine hZ _ _ (hfr (c2.at_ n a y (c2.adp n a ha) hy)).1 ?_
      refine forK_run (H := H1) (μ := μ2) (ρ := ρ) (σ := σ) (tmp := tmp) jk hg hb ⟨S2, ad2, c2.pop⟩ ?_ (fun _ _ R' => R' J H1) (fun R' h => h)
      have fin : ∀ {tm : List (V × D)} {ρ3 : Ro} {μ3 : Mu} {σ3 : L2.St} {H3 : Hp}, μ3[n]? = some y → Rel K (upd H a (.frz od ub)) S ad tm ρ3 μ3 σ3 H3 → H3 a = some (.frz od ub) ∧ Rel K H0 S0 ad0 tm ρ3 (μ3.set n x) σ3 (upd H3 a ub) := fun {tm ρ3 μ3 σ3 H3} h3 R3 => by
        obtain ⟨S3, ad3, c3⟩ := R3
        obtain ⟨q1, q2⟩ := hfr (c3.at_ n a y (c3.adp n a ha) h3)
        exact ⟨q1, S3, ad3, (cl.trans c3).wr (c3.adp n a ha) q2⟩
      cases e : forK n y g b ds ρ μ2 with
      | nx ρ3 μ3 =>
        rw [e] at k
        intro h3 σ3 H3 R3
        obtain ⟨q1, q2⟩ := fin h3 R3
        exact ⟨q1, k _ _ q2⟩
      | ret d μ3 =>
        rw [e] at k
        intro h3 v ρ3 σ3 H3 R3
        obtain ⟨q1, q2⟩ := fin h3 R3
        exact ⟨q1, k _ _ _ _ q2⟩
      | bk ρ3 μ3 => rw [e] at k; exact k.elim
      | ct ρ3 μ3 => rw [e] at k; exact k.elim
      | exc _ ρ3 μ3 => rw [e] at k; exact k.elim
      | fail => rw [e] at k; exact k.elim
    · exfalso
      cases ds with
      | nil => simp only [forK, if_neg hy] at k; exact k
      | cons d ds => simp only [forK, if_neg hy] at k; exact k
theorem postS_run {E : Ends} {w : Wk} {f : EF} {g : GT} {b : SF} {n : Nat} {x y : Nd} {ds : List D} {h : Gh} (hl : lkN w h x = some (y, ds)) (k : PostS K W H0 S0 ad0 tmp E (runK w f g b n x ρ μ h)) : ∃ μ2, f ρ (μ.set n y) = .val (.ref n) μ2 ∧ PostS K W H0 S0 ad0 tmp E (match forK n y g b ds ρ μ2 with
      | .nx ρ3 μ3 => .nx ρ3 (μ3.set n x)
      | .ret d μ3 => .ret d (μ3.set n x)
      | _ => .fail) := by
  unfold runK at k
  rw [hl] at k
  simp only at k
  split at k
  · rename_i m μ2 e
    split at k
    · rename_i hm
      subst hm
      exact ⟨μ2, e, k⟩
    · exact k.elim
  · exact k.elim
theorem sForK_in {E : Ends} {w : Wk} {f : EF} {g : GT} {b : SF} (k : PostS K W H0 S0 ad0 tmp E (sForK w f g b ρ μ)) : ∃ n x, μ[n]? = some x ∧ ∀ h, PostS K W H0 S0 ad0 tmp E (runK w f g b n x ρ μ h) := by
  unfold sForK at k
  split at k
  · rename_i n μ1 e
    split at k
    · rename_i x hx
      split at k
      · rename_i h
        exact ⟨n, x, hx, fun z => by rw [h z]; exact k⟩
      · exact k.elim
    · exact k.elim
  · exact k.elim
theorem simS_forKeys {td : TE} {f : EF} {t : TG} {u : TS} {g : GT} {b : SF} (he : SimE K W0 td f) (hg : SimG K t g) (hb : SimS K W u b) : SimS K W (tLock (tFor (iKeys td) t u)) (sForK .keys f g b) := ⟨fun {H0 S0 ad0 tmp ρ μ σ H E} R k => by
  obtain ⟨n, x, hx, k⟩ := sForK_in k
  obtain ⟨S, ad, c⟩ := R
  have hl : n < ad.length := by rw [c.al]; exact (List.getElem?_eq_some_iff.mp hx).1
  have ha : ad[n]? = some ad[n] := List.getElem?_eq_getElem hl
  cases x with
  | dK kvs =>
    obtain ⟨ws, h1, h2⟩ := (c.at_ n _ _ ha hx).dr
    refine ⟨ad[n], .dK ws, h1, True.intro, fun od => ?_⟩
    obtain ⟨μ2, e2, k2⟩ := postS_run (h := ⟨od, ws, []⟩) rfl (k _)
    refine forK_lock (n := n) (m := 0) c ha h1 (y := .lkK od ws kvs) (x := .dK kvs) ⟨upd_same, h2.keys, h2.vals⟩ (fun {S' ad' H'} z => ?_) (jk_keysK ha) hg hb he (fun H1 R' q1 q2 => ⟨_, od, rfl, .inl ⟨ws, q1, q2⟩⟩) e2 k2
    obtain ⟨z1, z2, z3⟩ := z
    exact ⟨z1, ws, upd_same, z2, z3⟩
  | dT kvs =>
    obtain ⟨ws, h1, h2⟩ := (c.at_ n _ _ ha hx).drT
    refine ⟨ad[n], .dT ws, h1, True.intro, fun od => ?_⟩
    obtain ⟨μ2, e2, k2⟩ := postS_run (h := ⟨od, [], ws⟩) rfl (k _)
    refine forK_lock (n := n) (m := 0) c ha h1 (y := .lkT od ws kvs) (x := .dT kvs) ⟨upd_same, h2.keys, h2.vals⟩ (fun {S' ad' H'} z => ?_) (jk_keysT ha) hg hb he (fun H1 R' q1 q2 => ⟨_, od, rfl, .inr ⟨ws, q1, q2⟩⟩) e2 k2
    obtain ⟨z1, z2, z3⟩ := z
    exact ⟨z1, ws, upd_same, z2, z3⟩
  | _ => exact (k gh0).elim⟩
theorem simS_forItems {td : TE} {f : EF} {t : TG} {u : TS} {g : GT} {b : SF} (he : SimE K W0 td f) (hg : SimG K t g) (hb : SimS K W u b) : SimS K W (tLock (tFor (iItems td) t u)) (sForK .items f g b) := ⟨fun {H0 S0 ad0 tmp ρ μ σ H E} R k => by
  obtain ⟨n, x, hx, k⟩ := sForK_in k
  obtain ⟨S, ad, c⟩ := R
  have hl : n < ad.length := by rw [c.al]; exact (List.getElem?_eq_some_iff.mp hx).1
  have ha : ad[n]? = some ad[n] := List.getElem?_eq_getElem hl
  cases x with
  | dK kvs =>
    obtain ⟨ws, h1, h2⟩ := (c.at_ n _ _ ha hx).dr
    refine ⟨ad[n], .dK ws, h1, True.intro, fun od => ?_⟩
    obtain ⟨μ2, e2, k2⟩ := postS_run (h := ⟨od, ws, []⟩) rfl (k _)
    refine forK_lock (n := n) (m := 0) c ha h1 (y := .lkK od ws kvs) (x := .dK kvs) ⟨upd_same, h2.keys, h2.vals⟩ (fun {S' ad' H'} z => ?_) (jk_itemsK ha) hg hb he (fun H1 R' q1 q2 => ⟨_, od, ws, rfl, q1, q2⟩) e2 k2
    obtain ⟨z1, z2, z3⟩ := z
    exact ⟨z1, ws, upd_same, z2, z3⟩
  | _ => exact (k gh0).elim⟩
end
section
variable {X : Cx} {W : WX} {tg e : Expr} {elts : List Expr} {body : List Stmt} {f : EF} {g : GT} {b : SF} {pos apos cpos tpos : Pos} {kk : Nat}
theorem ds_forKeys (hp : PassesOwn (model X.prog X.w) X.A X.env X.xe) (hc : X.calm = true) (he : DE X W0 e f) (hg : DG X tg g) (hb : DSs X W body b) (hs : ∀ x, foldedSetIterable e X.env x = pure x := by intro _; rfl) : DS X W (.For tg e body [] pos) (sForK .keys f g b) :=
  let ⟨_, p0, q0⟩ := he; let ⟨_, p1, q1⟩ := hg; let ⟨_, p2, q2⟩ := hb; ⟨_, ps_lock (ps_for hp hc (pi_keys p0) p1 p2 hs), simS_forKeys q0 q1 q2⟩
theorem ds_forItems (hp : PassesOwn (model X.prog X.w) X.A X.env X.xe) (hc : X.calm = true) (he : DE X W0 e f) (hg : DG X (.Tuple elts kk tpos) g) (hb : DSs X W body b) (hbase : attributeBase e "items" X.env (eval e X.env) = eval e X.env := by rfl) (hline : (apos.endLine == cpos.line) = true := by rfl)
    (hs : ∀ x, foldedSetIterable (.Call (.Attribute e "items" apos) [] [] cpos) X.env x = pure x := by intro _; rfl) : DS X W (.For (.Tuple elts kk tpos) (.Call (.Attribute e "items" apos) [] [] cpos) body [] pos) (sForK .items f g b) :=
  let ⟨_, p0, q0⟩ := he; let ⟨_, p1, q1⟩ := hg; let ⟨_, p2, q2⟩ := hb; ⟨_, ps_lock (ps_for hp hc (pi_items p0 hbase hline) p1 p2 hs), simS_forItems q0 q1 q2⟩
end
/-! methods of dicts -/
section
variable {K : PySem.W.Frag} {W : WX} {X : Cx}
def rGet1 : V → List V → Hp → VK → Prop := fun x xs H Q => ∃ a y o, x = .ref a ∧ xs = [y] ∧ DGet H a y o ∧ Q (o.getD .non) H
def rGet2 : V → List V → Hp → VK → Prop := fun x xs H Q => ∃ a y z o, x = .ref a ∧ xs = [y, z] ∧ DGet H a y o ∧ Q (o.getD z) H
theorem mt_get1 (hu : X.A.units + 1 < cLine) : MtR X "dict.get" rGet1 := by
  intro pins s σ H x xs v us Q I rx rxs h
  obtain ⟨a, y, o, rfl, rfl, g, q⟩ := h
  cases rx
  obtain ⟨u, rfl, ry⟩ := vals1 rxs
  exact d_get1 hu I g ry fun w' s3 I3 rw' => ⟨_, H, I3, rw', q⟩
theorem mt_get2 (hu : X.A.units + 1 < cLine) : MtR X "dict.get" rGet2 := by
  intro pins s σ H x xs v us Q I rx rxs h
  obtain ⟨a, y, z, o, rfl, rfl, g, q⟩ := h
  cases rx
  cases rxs with
  | cons ry r =>
    cases r with
    | cons rz r =>
      cases r
      exact d_get2 hu I g ry rz fun w' s3 I3 rw' => ⟨_, H, I3, rw', q⟩
@[simp] def gGet1 : MF := fun d ds μ => match d, ds with
  | .ref n, [e] => (match dGet μ n e with
    | some o => .val (o.getD .non) μ
    | none => .fail)
  | _, _ => .fail
@[simp] def gGet2 : MF := fun d ds μ => match d, ds with
  | .ref n, [e, z] => (match dGet μ n e with
    | some o => .val (o.getD z) μ
    | none => .fail)
  | _, _ => .fail
theorem mo_get1 (hu : X.A.units + 1 < cLine) : MtO X W "dict.get" gGet1 := ⟨_, mt_get1 hu, ⟨fun {H0 S0 ad0 tmp ρ μ σ H Q x d xs ds} hl R k => by
  obtain ⟨S, ad, c, rx, ra⟩ := R.margs hl
  unfold gGet1 at k
  split at k
  · rename_i n e
    obtain ⟨v, rfl, rv⟩ := rpL1 ra
    split at k
    · rename_i o ho
      cases rx with
      | ref ha =>
        obtain ⟨q, g1, g2, g3⟩ := dGet_at c ha rv ho
        refine ⟨_, v, q, rfl, rfl, g1, ?_⟩
        cases o with
        | none => rw [g3 rfl]; exact k _ _ (c.flat flat_non)
        | some d => obtain ⟨w, rfl, rw'⟩ := g2 _ rfl; exact k _ _ ⟨S, ad, c.push rw'⟩
    · exact k.elim
  · exact k.elim⟩⟩
theorem mo_get2 (hu : X.A.units + 1 < cLine) : MtO X W "dict.get" gGet2 := ⟨_, mt_get2 hu, ⟨fun {H0 S0 ad0 tmp ρ μ σ H Q x d xs ds} hl R k => by
  obtain ⟨S, ad, c, rx, ra⟩ := R.margs hl
  unfold gGet2 at k
  split at k
  · rename_i n e z
    obtain ⟨v, w, rfl, rv, rz⟩ := rpL2 ra
    split at k
    · rename_i o ho
      cases rx with
      | ref ha =>
        obtain ⟨q, g1, g2, g3⟩ := dGet_at c ha rv ho
        refine ⟨_, v, w, q, rfl, rfl, g1, ?_⟩
        cases o with
        | none => rw [g3 rfl]; exact k _ _ ⟨S, ad, c.push rz⟩
        | some d => obtain ⟨w, rfl, rw'⟩ := g2 _ rfl; exact k _ _ ⟨S, ad, c.push rw'⟩
    · exact k.elim
  · exact k.elim⟩⟩
/-- d.clear() -/
def rClr : V → List V → Hp → VK → Prop := fun x xs H Q => ∃ a, x = .ref a ∧ xs = [] ∧ ((∃ kvs, H a = some (.dK kvs) ∧ Q .non (upd H a (.dK []))) ∨ ∃ kvs, H a = some (.dT kvs) ∧ Q .non (upd H a (.dT [])))
theorem mt_clr : MtR X "dict.clear" rClr := by
  intro pins s σ H x xs v us Q I rx rxs h
  obtain ⟨a, rfl, rfl, h⟩ := h
  cases rx
  cases rxs
  rcases h with ⟨kvs, e, q⟩ | ⟨kvs, e, q⟩
  · exact d_clear I e fun s' I' => ⟨.non, _, I', rfl, q⟩
  · obtain ⟨z, hd, ys, rel, o, es, ep, ho, hx, hdat, he, his, hn⟩ := dt_of I.hok e
    have hsz : es.size ≤ sizeLine := by
      rw [size_of_entries he, ← Paired.length rel]; exact z
    refine call_meetsIn PySem.F.slot_dict_clear ⟨o, ho, hx.1⟩ PySem.F.entry_dict_clear (PySem.F.args_dict_clear_1 _) (meets_dict_clear_raw a) ⟨es, ep, ⟨o, ho, hx, hdat⟩, hsz, fun h' dd' hs => ?_⟩
    obtain ⟨o', ho', hx', hdat'⟩ := dd'
    refine ⟨.non, upd H a (.dT []), ?_, rfl, q⟩
    exact d_write (t' := s.toks) I (by rw [e]; exact True.intro) hs ⟨o', ho'⟩ ⟨Nat.zero_le _, hd, [], .nil, o', #[], ep + 1, ho', hx', hdat', rfl, List.nodup_nil⟩
@[simp] def gClr : MF := fun d ds μ => match d, ds with
  | .ref n, [] => (match μ[n]? with
    | some (.dK _) => .val .non (μ.set n (.dK []))
    | some (.dT _) => .val .non (μ.set n (.dT []))
    | _ => .fail)
  | _, _ => .fail
theorem mo_clr : MtO X W "dict.clear" gClr := ⟨_, mt_clr, ⟨fun {H0 S0 ad0 tmp ρ μ σ H Q x d xs ds} hl R k => by
  obtain ⟨S, ad, c, rx, ra⟩ := R.margs hl
  unfold gClr at k
  split at k
  · rename_i n
    cases ra
    cases rx with
    | ref ha =>
      split at k
      · rename_i kvs hm
        obtain ⟨ws, g1, g2⟩ := (c.at_ n _ _ ha hm).dr
        exact ⟨_, rfl, rfl, .inl ⟨ws, g1, k _ _ ((wrDK c ha .nil).flat flat_non)⟩⟩
      · rename_i kvs hm
        obtain ⟨ws, g1, g2⟩ := (c.at_ n _ _ ha hm).drT
        exact ⟨_, rfl, rfl, .inr ⟨ws, g1, k _ _ ((wrDT c ha .nil).flat flat_non)⟩⟩
      · exact k.elim
  · exact k.elim⟩⟩
/-- len(d) -/
def rDLen : List V → Hp → VK → Prop := fun xs H Q => (∃ a kvs, xs = [.ref a] ∧ H a = some (.dK kvs) ∧ Q (.int ((kvs.length : Nat) : Int)) H) ∨ rLenT xs H Q
theorem call_dlen : CallR X (.builtin "len") rDLen := by
  intro pins s σ H xs us Q I r h
  rcases h with ⟨a, kvs, rfl, e, q⟩ | h
  · obtain ⟨u, rfl, rx⟩ := vals1 r
    cases rx
    exact d_len I (.inl e) fun t s' I' => ⟨.int _, H, I', ⟨t, rfl⟩, q⟩
  · exact call_len_dT pins s σ H xs us Q I r h
@[simp] def gDLen : List D → Mu → Res D := fun ds μ => match ds with
  | [.ref n] => (match μ[n]? with
    | some (.dK kvs) => .val (.int kvs.length) μ
    | some (.dT kvs) => .val (.int kvs.length) μ
    | _ => .fail)
  | _ => .fail
theorem cb_dlen : CbO X W (.builtin "len") gDLen := ⟨_, call_dlen, ⟨fun {H0 S0 ad0 tmp ρ μ σ H Q xs ds} hl R k => by
  obtain ⟨S, ad, c, r⟩ := R.args hl
  unfold gDLen at k
  split at k
  · rename_i n
    obtain ⟨v, rfl, rv⟩ := rpL1 r
    cases rv with
    | ref ha =>
      split at k
      · rename_i kvs hm
        obtain ⟨ws, g1, g2⟩ := (c.at_ n _ _ ha hm).dr
        exact .inl ⟨_, ws, rfl, g1, by rw [g2.length]; exact k _ _ (c.flat (flat_int _))⟩
      · rename_i kvs hm
        obtain ⟨ws, g1, g2⟩ := (c.at_ n _ _ ha hm).drT
        exact .inr ⟨_, ws, rfl, g1, by rw [g2.length]; exact k _ _ (c.flat (flat_int _))⟩
      · exact k.elim
  · exact k.elim⟩⟩
end
end Dn

/-! Dn13: == of dicts, displays with tuple keys. -/
namespace PySem
open Sem (wp)
section
variable {prog : Program} {w : World} {K : Type} [DecidableEq K] {knd : HeapKind prog w K} {A : Around} {E : Value → Shared → Prop} {s : Shared}
inductive HitsH {K : Type} [DecidableEq K] (prog : Program) (w : World) (A : Around) (s : Shared) (kb : List (K × Addr × Value)) : List (K × Addr × Value) → Bool → Prop
  | nil : HitsH prog w A s kb [] true
  | miss {k : K} {p : Addr × Value} {r : List (K × Addr × Value)} : atKey kb k = none → HitsH prog w A s kb ((k, p) :: r) false
  | hit {k : K} {p q : Addr × Value} {r : List (K × Addr × Value)} {e b : Bool} : atKey kb k = some q → SeqAt.EqP prog w A s p.2 q.2 e → HitsH prog w A s kb r b → HitsH prog w A s kb ((k, p) :: r) (e && b)
theorem HitsH.inv {kb : List (K × Addr × Value)} {k : K} {p : Addr × Value} {r : List (K × Addr × Value)} {b : Bool} (h : HitsH prog w A s kb ((k, p) :: r) b) :
    (atKey kb k = none ∧ b = false) ∨ ∃ q e b', atKey kb k = some q ∧ SeqAt.EqP prog w A s p.2 q.2 e ∧ HitsH prog w A s kb r b' ∧ b = (e && b') := by
  cases h with
  | miss hn => exact .inl ⟨hn, rfl⟩
  | hit hy he hr => exact .inr ⟨_, _, _, hy, he, hr, rfl⟩
theorem samePairsH {nm : String} {a b : Addr} {ka kb : List (K × Addr × Value)} {r : Bool} {Q : Bool → Shared → Prop} (hu : knd.room A) (ha : (a == sysModules) = false) (hb : (b == sysModules) = false)
    (da : s.heap.DictOfH knd a ka) (db : s.heap.DictOfH knd b kb) (hits : ka.length = kb.length → HitsH prog w A s kb ka r) (h : Q (ka.length == kb.length && r) s) :
    wpAny (model prog w) A (Builtin.Dict.samePairs nm a b) Q E s := by
  obtain ⟨oa, es, ep, hoa, _, hda, hpa, hka, hna⟩ := da
  obtain ⟨ob, es', ep', hob, _, hdb, hpb, hkb, hnb⟩ := db
  have hla : ka.length = es.size := (size_of_entries hpa).symm
  have hlb : kb.length = es'.size := (size_of_entries hpb).symm
  rw [hla, hlb] at h
  unfold Builtin.Dict.samePairs Builtin.Dict.showsAll
  rw [if_neg (show ¬ (a == sysModules) = true by rw [ha]; exact Bool.false_ne_true), if_neg (show ¬ (b == sysModules) = true by rw [hb]; exact Bool.false_ne_true)]
  refine wpAny_bind (wpAny_pure (wpAny_bind (wpAny_pure ?_)))
  refine wpAny_bind (wpAny_dictEntries hoa hda ?_)
  dsimp only
  refine wpAny_bind (wpAny_dictEntries hob hdb ?_)
  by_cases hsz : es.size = es'.size
  case neg =>
    rw [if_pos (by simpa using hsz)]
    have hbf : (es.size == es'.size) = false := by simpa using hsz
    rw [hbf, Bool.false_and] at h
    exact wpAny_bind (wpAny_rule (wpAny_pure h))
  case pos =>
    have h' : Q r s := by simpa [hsz] using h
    have hits' := hits (by rw [hla, hlb]; exact hsz)
    rw [if_neg (by rw [hsz]; simp)]
    refine wpAny_bind (wpAny_dictEpoch hoa hda ?_)
    refine wpAny_bind ?_
    rw [Std.Legacy.Range.forIn_eq_forIn_range']
    simp only [Std.Legacy.Range.size, Nat.sub_zero, Nat.add_sub_cancel, Nat.div_one]
    refine wpAny_forIn_list _
      (fun rest q s' => s' = s ∧ q = (none, ()) ∧ ∃ i, rest = List.range' i (es.size - i) ∧ i ≤ es.size ∧ HitsH prog w A s kb (ka.drop i) r)
      _ ?_ ?_ _ _ ⟨rfl, rfl, 0, by simp, Nat.zero_le _, hits'⟩
    · rintro x rest q s' ⟨rfl, rfl, i, hr, hi, hpre⟩
      have hlt : i < es.size := by
        rcases Nat.lt_or_ge i es.size with h | h
        · exact h
        · rw [Nat.sub_eq_zero_of_le h] at hr; simp at hr
      obtain ⟨rfl, hrest⟩ : x = i ∧ rest = List.range' (i + 1) (es.size - (i + 1)) := by
        have e : es.size - i = (es.size - (i + 1)) + 1 := by omega
        rw [e, List.range'_succ] at hr
        injection hr with h1 h2
        exact ⟨h1, h2⟩
      refine wpAny_bind (wpAny_dictEntries hoa hda ?_)
      have hlt' : x < ka.length := by rw [hla]; exact hlt
      obtain ⟨k, c, v, hkv⟩ : ∃ k c v, ka[x] = (k, c, v) := ⟨_, _, _, rfl⟩
      have hdrop : ka.drop x = (k, c, v) :: ka.drop (x + 1) := by rw [← hkv]; exact List.drop_eq_getElem_cons hlt'
      have hex : es[x]? = some ⟨knd.hash k, .ref c, v⟩ := by rw [entry_at hpa x, List.getElem?_eq_getElem hlt', hkv]; rfl
      have hib : knd.is s'.heap k c := hka (k, c, v) (by rw [← hkv]; exact List.getElem_mem hlt')
      rw [hdrop] at hpre
      rw [hex]
      show wpAny _ _ (holding [Value.ref c, v] _ >>= _) _ _ _
      have tail : ∀ (j : Nat) (p : Addr × Value), kb[j]? = some (k, p) → es'[j]? = some ⟨knd.hash k, .ref p.1, p.2⟩ := fun j p hj => by rw [entry_at hpb j, hj]; rfl
      refine wpAny_bind (wpAny_holding (wpAny_bind (wpAny_dictFind_heap hu hib hob hdb hpb hkb hnb (fun hno => ?_) (fun j p hj => ?_))))
      · have hn : atKey kb k = none := atKey_none_of_get hno
        rcases hpre.inv with ⟨_, er⟩ | ⟨y, _, _, hy, _⟩
        · rw [er] at h'
          refine wpAny_pure ?_
          show wpAny _ _ (if (!false) = true then _ else _) _ _ _
          rw [if_pos (by decide)]
          exact wpAny_pure (wpAny_pure h')
        · rw [hn] at hy; exact nomatch hy
      · have hk := atKey_of_get hnb hj
        refine wpAny_bind (wpAny_dictEntries hob hdb ?_)
        rw [tail j p hj]
        rcases hpre.inv with ⟨hn, _⟩ | ⟨y, e, b', hy, he, hrr, er⟩
        · rw [hk] at hn; exact nomatch hn
        · rw [hk] at hy
          cases hy
          refine wpAny_holding (he _ _ ?_)
          cases e with
          | false =>
            rw [er, Bool.false_and] at h'
            show wpAny _ _ (if (!false) = true then _ else _) _ _ _
            rw [if_pos (by decide)]
            exact wpAny_pure (wpAny_pure h')
          | true =>
            rw [Bool.true_and] at er
            rw [← er] at hrr
            show wpAny _ _ (if (!true) = true then _ else _) _ _ _
            rw [if_neg (by decide)]
            refine wpAny_bind (wpAny_dictEpoch hoa hda ?_)
            rw [if_neg (by simp)]
            exact wpAny_pure ⟨rfl, rfl, x + 1, hrest, hlt, hrr⟩
    · rintro q s' ⟨rfl, rfl, i, hr, hi, hpre⟩
      have hin : i = es.size := by
        rcases Nat.lt_or_ge i es.size with h | h
        · have e : es.size - i = (es.size - (i + 1)) + 1 := by omega
          rw [e, List.range'_succ] at hr; exact nomatch hr
        · exact Nat.le_antisymm hi h
      refine wpAny_pure ?_
      rw [hin, ← hla, List.drop_length] at hpre
      cases hpre
      exact h'
theorem rcP_dictsH {a b : Addr} {ka kb : List (K × Addr × Value)} {r : Bool} (hr : knd.room A.in1) (ha : (a == sysModules) = false) (hb : (b == sysModules) = false)
    (da : s.heap.DictOfH knd a ka) (db : s.heap.DictOfH knd b kb) (hu : A.units < cLine) (hits : ka.length = kb.length → HitsH prog w A.in1 s kb ka r) (E Q : Value → Shared → Prop) (h : Q (.bool (ka.length == kb.length && r)) s) : wpAny (model prog w) A (richCompare .Eq (.ref a) (.ref b)) Q E s := by
  refine wpAny_richCompare_same_room (op := .Eq) da.typeIs db.typeIs PySem.F.slot_dict_eq (wpAny_call_entry PySem.F.slot_dict_eq da.typeIs PySem.F.entry_dict_eq ?_ (PySem.F.args_dict_eq_2 _ _)) hu
  show wpAny _ _ (Builtin.Dict.dictSlotArgs "__eq__" ⟨[.ref a, .ref b], []⟩ >>= _) _ _ s
  refine wpAny_bind ?_
  unfold Builtin.Dict.dictSlotArgs
  refine wpAny_bind (wpAny_notOrdered_dict da.typeIs ?_)
  show wpAny _ _ (pure (Value.ref a, Value.ref b)) _ _ s
  refine wpAny_pure ?_
  refine wpAny_bind (wpAny_isInstance (T := "dict") db.typeIs PySem.F.sub_dict_dict ?_)
  simp only [Bool.not_true, Bool.false_eq_true, if_false]
  refine wpAny_bind (wpAny_pure (wpAny_bind (wpAny_pure ?_)))
  refine wpAny_bind (samePairsH hr ha hb da db hits ?_)
  refine wpAny_pure ⟨_, rfl, ?_, ?_⟩
  · exact fun x => nomatch x
  · simpa using h
theorem rcP_dictsNeH {a b : Addr} {ka kb : List (K × Addr × Value)} {r : Bool} (hr : knd.room A.in1) (ha : (a == sysModules) = false) (hb : (b == sysModules) = false)
    (da : s.heap.DictOfH knd a ka) (db : s.heap.DictOfH knd b kb) (hu : A.units < cLine) (hits : ka.length = kb.length → HitsH prog w A.in1 s kb ka r) (E Q : Value → Shared → Prop) (h : Q (.bool (!(ka.length == kb.length && r))) s) : wpAny (model prog w) A (richCompare .NotEq (.ref a) (.ref b)) Q E s := by
  refine wpAny_richCompare_same_room (op := .NotEq) da.typeIs db.typeIs PySem.F.slot_dict_ne (wpAny_call_entry PySem.F.slot_dict_ne da.typeIs PySem.F.entry_dict_ne ?_ (PySem.F.args_dict_ne_2 _ _)) hu
  show wpAny _ _ (Builtin.Dict.dictSlotArgs "__ne__" ⟨[.ref a, .ref b], []⟩ >>= _) _ _ s
  refine wpAny_bind ?_
  unfold Builtin.Dict.dictSlotArgs
  refine wpAny_bind (wpAny_notOrdered_dict da.typeIs ?_)
  show wpAny _ _ (pure (Value.ref a, Value.ref b)) _ _ s
  refine wpAny_pure ?_
  refine wpAny_bind (wpAny_isInstance (T := "dict") db.typeIs PySem.F.sub_dict_dict ?_)
  simp only [Bool.not_true, Bool.false_eq_true, if_false]
  refine wpAny_bind (wpAny_pure (wpAny_bind (wpAny_pure ?_)))
  refine wpAny_bind (samePairsH hr ha hb da db hits ?_)
  refine wpAny_pure ⟨_, rfl, ?_, ?_⟩
  · exact fun x => nomatch x
  · simpa using h
end
section
variable {prog : Program} {w : World} {K : Type} [DecidableEq K] {knd : KeyKind prog w K} {A : Around} {E : Value → Shared → Prop} {s : Shared}
theorem rcP_dictsK {a b : Addr} {ka kb : List (K × Value)} {r : Bool} (ha : (a == sysModules) = false) (hb : (b == sysModules) = false)
    (da : s.heap.DictOf knd a ka) (db : s.heap.DictOf knd b kb) (hu : A.units < cLine) (hits : ka.length = kb.length → PySem.W.KeqHitsP prog w A.in1 s kb ka r) (E Q : Value → Shared → Prop) (h : Q (.bool (ka.length == kb.length && r)) s) : wpAny (model prog w) A (richCompare .Eq (.ref a) (.ref b)) Q E s := by
  refine wpAny_richCompare_same_room (op := .Eq) da.typeIs db.typeIs PySem.F.slot_dict_eq (wpAny_call_entry PySem.F.slot_dict_eq da.typeIs PySem.F.entry_dict_eq ?_ (PySem.F.args_dict_eq_2 _ _)) hu
  show wpAny _ _ (Builtin.Dict.dictSlotArgs "__eq__" ⟨[.ref a, .ref b], []⟩ >>= _) _ _ s
  refine wpAny_bind ?_
  unfold Builtin.Dict.dictSlotArgs
  refine wpAny_bind (wpAny_notOrdered_dict da.typeIs ?_)
  show wpAny _ _ (pure (Value.ref a, Value.ref b)) _ _ s
  refine wpAny_pure ?_
  refine wpAny_bind (wpAny_isInstance (T := "dict") db.typeIs PySem.F.sub_dict_dict ?_)
  simp only [Bool.not_true, Bool.false_eq_true, if_false]
  refine wpAny_bind (wpAny_pure (wpAny_bind (wpAny_pure ?_)))
  refine wpAny_bind (PySem.W.samePairsP ha hb da db hits ?_)
  refine wpAny_pure ⟨_, rfl, ?_, ?_⟩
  · exact fun x => nomatch x
  · simpa using h
theorem rcP_dictsNeK {a b : Addr} {ka kb : List (K × Value)} {r : Bool} (ha : (a == sysModules) = false) (hb : (b == sysModules) = false)
    (da : s.heap.DictOf knd a ka) (db : s.heap.DictOf knd b kb) (hu : A.units < cLine) (hits : ka.length = kb.length → PySem.W.KeqHitsP prog w A.in1 s kb ka r) (E Q : Value → Shared → Prop) (h : Q (.bool (!(ka.length == kb.length && r))) s) : wpAny (model prog w) A (richCompare .NotEq (.ref a) (.ref b)) Q E s := by
  refine wpAny_richCompare_same_room (op := .NotEq) da.typeIs db.typeIs PySem.F.slot_dict_ne (wpAny_call_entry PySem.F.slot_dict_ne da.typeIs PySem.F.entry_dict_ne ?_ (PySem.F.args_dict_ne_2 _ _)) hu
  show wpAny _ _ (Builtin.Dict.dictSlotArgs "__ne__" ⟨[.ref a, .ref b], []⟩ >>= _) _ _ s
  refine wpAny_bind ?_
  unfold Builtin.Dict.dictSlotArgs
  refine wpAny_bind (wpAny_notOrdered_dict da.typeIs ?_)
  show wpAny _ _ (pure (Value.ref a, Value.ref b)) _ _ s
  refine wpAny_pure ?_
  refine wpAny_bind (wpAny_isInstance (T := "dict") db.typeIs PySem.F.sub_dict_dict ?_)
  simp only [Bool.not_true, Bool.false_eq_true, if_false]
  refine wpAny_bind (wpAny_pure (wpAny_bind (wpAny_pure ?_)))
  refine wpAny_bind (PySem.W.samePairsP ha hb da db hits ?_)
  refine wpAny_pure ⟨_, rfl, ?_, ?_⟩
  · exact fun x => nomatch x
  · simpa using h
end
end PySem
namespace Dn
open PySem PySem.Spec PyProof.Rows L2
/-- == of plain values -/
inductive FlEq : V → V → Bool → Prop
  | int (i j : Int) : FlEq (.int i) (.int j) (i == j)
  | str (i j : Str) : FlEq (.str i) (.str j) (i == j)
  | bl (i j : Bool) : FlEq (.bl i) (.bl j) (i == j)
  | non : FlEq .non .non true
@[simp] def eqFl : D → D → Option Bool
  | .int i, .int j => some (i == j)
  | .str i, .str j => some (i == j)
  | .bl i, .bl j => some (i == j)
  | .non, .non => some true
  | _, _ => none
theorem eqFl_at {K : PySem.W.Frag} {S : Hp} {ad : Ad} {x y : V} {d e : D} {b : Bool} (rx : Rp K S ad x d) (ry : Rp K S ad y e) (h : eqFl d e = some b) : FlEq x y b := by
  cases rx <;> cases ry <;> simp only [eqFl] at h <;> first | cases h | skip
  · exact .non
  · exact .bl _ _
  · exact .int _ _
  · exact .str _ _
theorem FlEq.run {P : Program} {w : World} {A : Around} {s : Shared} {x y : V} {b : Bool} {u v : Value} (h : FlEq x y b) (rx : RelV x u) (ry : RelV y v) : SeqAt.EqP P w A s u v b := by
  cases h with
  | int i j => obtain ⟨t, rfl⟩ := rx; obtain ⟨t', rfl⟩ := ry; exact (SeqAt.EqAt.int_int i t j t').eqP
  | str i j => obtain ⟨t, rfl⟩ := rx; obtain ⟨t', rfl⟩ := ry; exact (SeqAt.EqAt.str_str i t j t').eqP
  | bl i j => cases rx; cases ry; exact (SeqAt.EqAt.bool_bool i j).eqP
  | non => cases rx; cases ry; exact (SeqAt.EqAt.same _).eqP
inductive HitV {κ : Type} [DecidableEq κ] (kb : List (κ × V)) : List (κ × V) → Bool → Prop
  | nil : HitV kb [] true
  | miss {k : κ} {v : V} {r : List (κ × V)} : valV kb k = none → HitV kb ((k, v) :: r) false
  | hit {k : κ} {v u : V} {r : List (κ × V)} {e b : Bool} : valV kb k = some u → FlEq v u e → HitV kb r b → HitV kb ((k, v) :: r) (e && b)
def hitsD {κ : Type} [DecidableEq κ] (kb : List (κ × D)) : List (κ × D) → Option Bool
  | [] => some true
  | (k, d) :: r => match valD kb k with
    | none => some false
    | some e => (eqFl d e).bind fun b => (hitsD kb r).map fun c => b && c
theorem hitsD_at {K : PySem.W.Frag} {S : Hp} {ad : Ad} {κ : Type} [DecidableEq κ] {wb : List (κ × V)} {kb : List (κ × D)} (rb : DR K S ad wb kb) : ∀ {wa : List (κ × V)} {ka : List (κ × D)} {b : Bool}, DR K S ad wa ka → hitsD kb ka = some b → HitV wb wa b
  | [], _, b, r, h => by cases r; cases h; exact .nil
  | (k, v) :: wa, _, b, r, h => by
    cases r with
    | @cons _ _ d _ ka p t =>
      unfold hitsD at h
      split at h
      · rename_i hn
        cases h
        exact .miss (rb.misses hn)
      · rename_i e he
        simp only [Option.bind_eq_some_iff, Option.map_eq_some_iff] at h
        obtain ⟨b1, h1, b2, h2, rfl⟩ := h
        obtain ⟨u, g1, g2⟩ := rb.gets he
        exact .hit g1 (eqFl_at p g2 h1) (hitsD_at rb t h2)
theorem hitK_run {P : Program} {w : World} {A : Around} {s : Shared} {wb : List (Key × V)} {vb : List (Key × Value)} (rb : KV wb vb) : ∀ {wa : List (Key × V)} {va : List (Key × Value)} {b : Bool}, KV wa va → HitV wb wa b → PySem.W.KeqHitsP P w A s vb va b
  | [], _, b, r, h => by cases r; cases h; exact .nil
  | (k, v) :: wa, _, b, r, h => by
    cases r with
    | @cons _ q _ qs p t =>
      obtain ⟨p1, p2⟩ := p
      obtain ⟨key, u⟩ := q
      have p1 : k = key := p1
      subst p1
      cases h with
      | miss hn => exact .miss (RelO.none_of (by rw [← hn]; exact rb.val k))
      | @hit _ _ x _ e b1 hx he hr =>
        obtain ⟨y, hy, ry⟩ := RelO.some_of (v := x) (o := valueAt vb k) (by rw [← hx]; exact rb.val k)
        exact .hit hy (he.run p2 ry) (hitK_run rb t hr)
theorem hitT_run {P : Program} {w : World} {A : Around} {s : Shared} {H : Hp} {wb : List (List Key × V)} {vb : List (List Key × Addr × Value)} (rb : KT H wb vb) : ∀ {wa : List (List Key × V)} {va : List (List Key × Addr × Value)} {b : Bool}, KT H wa va → HitV wb wa b → HitsH P w A s vb va b
  | [], _, b, r, h => by cases r; cases h; exact .nil
  | (k, v) :: wa, _, b, r, h => by
    cases r with
    | @cons _ q _ qs p t =>
      obtain ⟨p1, _, p2⟩ := p
      obtain ⟨key, c, u⟩ := q
      have p1 : k = key := p1
      subst p1
      cases h with
      | miss hn =>
        have := RelO.none_of (o := (atKey vb k).map (·.2)) (by rw [← hn]; exact rb.val k)
        exact .miss (by cases e : atKey vb k with
          | none => rfl
          | some z => rw [e] at this; cases this)
      | @hit _ _ x _ e b1 hx he hr =>
        obtain ⟨y, hy, ry⟩ := RelO.some_of (v := x) (o := (atKey vb k).map (·.2)) (by rw [← hx]; exact rb.val k)
        obtain ⟨z, hz, rfl⟩ := Option.map_eq_some_iff.mp hy
        exact .hit hz (he.run p2 ry) (hitT_run rb t hr)
/-- two dicts compared -/
def DEqV (H : Hp) (x y : V) (r : Bool) : Prop := ∃ a b, x = .ref a ∧ y = .ref b ∧ ((∃ (ka kb : List (Key × V)) (q : Bool), H a = some (.dK ka) ∧ H b = some (.dK kb) ∧ (ka.length = kb.length → HitV kb ka q) ∧ r = (ka.length == kb.length && q)) ∨
  ∃ (ka kb : List (List Key × V)) (q : Bool), H a = some (.dT ka) ∧ H b = some (.dT kb) ∧ (ka.length = kb.length → HitV kb ka q) ∧ r = (ka.length == kb.length && q))
def rDEq (f : Bool → Bool) : R2 := fun x y H Q => ∃ r, DEqV H x y r ∧ Q (.bl (f r)) H
section
variable {X : Cx}
theorem op_deq (hu : X.A.units + 1 < cLine) : OpR X (compareOp .Eq) (rDEq id) := by
  intro pins s σ H x y v u Q I rx ry h
  obtain ⟨r, ⟨a, b, rfl, rfl, h⟩, q⟩ := h
  cases rx; cases ry
  rcases h with ⟨ka, kb, p, ea, eb, hh, rfl⟩ | ⟨ka, kb, p, ea, eb, hh, rfl⟩
  · obtain ⟨_, ya, va, ra, da⟩ := dk_of I.hok ea
    obtain ⟨_, yb, vb, rb, db⟩ := dk_of I.hok eb
    refine rcP_dictsK (r := p) ya yb da db (by omega) (fun hl => hitK_run rb ra (hh (by rw [ra.length, rb.length]; exact hl))) _ _ ⟨.bl _, H, I, ?_, q⟩
    rw [ra.length, rb.length]; rfl
  · obtain ⟨_, ya, va, ra, da⟩ := dt_of I.hok ea
    obtain ⟨_, yb, vb, rb, db⟩ := dt_of I.hok eb
    refine rcP_dictsH (r := p) (tupleKind_room_in1 hu) ya yb da db (by omega) (fun hl => hitT_run rb ra (hh (by rw [Paired.length ra, Paired.length rb]; exact hl))) _ _ ⟨.bl _, H, I, ?_, q⟩
    rw [Paired.length ra, Paired.length rb]; rfl
theorem op_dne (hu : X.A.units + 1 < cLine) : OpR X (compareOp .NotEq) (rDEq not) := by
  intro pins s σ H x y v u Q I rx ry h
  obtain ⟨r, ⟨a, b, rfl, rfl, h⟩, q⟩ := h
  cases rx; cases ry
  rcases h with ⟨ka, kb, p, ea, eb, hh, rfl⟩ | ⟨ka, kb, p, ea, eb, hh, rfl⟩
  · obtain ⟨_, ya, va, ra, da⟩ := dk_of I.hok ea
    obtain ⟨_, yb, vb, rb, db⟩ := dk_of I.hok eb
    refine rcP_dictsNeK (r := p) ya yb da db (by omega) (fun hl => hitK_run rb ra (hh (by rw [ra.length, rb.length]; exact hl))) _ _ ⟨.bl _, H, I, ?_, q⟩
    rw [ra.length, rb.length]; rfl
  · obtain ⟨_, ya, va, ra, da⟩ := dt_of I.hok ea
    obtain ⟨_, yb, vb, rb, db⟩ := dt_of I.hok eb
    refine rcP_dictsNeH (r := p) (tupleKind_room_in1 hu) ya yb da db (by omega) (fun hl => hitT_run rb ra (hh (by rw [Paired.length ra, Paired.length rb]; exact hl))) _ _ ⟨.bl _, H, I, ?_, q⟩
    rw [Paired.length ra, Paired.length rb]; rfl
end
def dEqD (μ : Mu) (n m : Nat) : Option Bool := match μ[n]?, μ[m]? with
  | some (.dK ka), some (.dK kb) => if ka.length = kb.length then hitsD kb ka else some false
  | some (.dT ka), some (.dT kb) => if ka.length = kb.length then hitsD kb ka else some false
  | _, _ => none
def gDEqF (f : Bool → Bool) : GF := fun d e μ => match d, e with
  | .ref n, .ref m => (match dEqD μ n m with
    | some b => .val (.bl (f b)) μ
    | none => .fail)
  | _, _ => .fail
def gDEq : GF := gDEqF id
def gDNe : GF := gDEqF not
section
variable {K : PySem.W.Frag} {W : WX} {X : Cx}
theorem simO_deq (f : Bool → Bool) : SimO K W (rDEq f) (gDEqF f) := ⟨fun {H0 S0 ad0 tmp ρ μ σ H Q x y d e} R k => by
  obtain ⟨S, ad, c, r1, r2⟩ := R.two
  unfold gDEqF at k
  split at k
  · rename_i n m
    split at k
    · rename_i b hb
      cases r1 with
      | ref ha =>
        rename_i a
        cases r2 with
        | ref ha' =>
          rename_i a'
          unfold dEqD at hb
          split at hb
          · rename_i ka kb hm hm'
            obtain ⟨wa, g1, g2⟩ := (c.at_ n _ _ ha hm).dr
            obtain ⟨wb, g3, g4⟩ := (c.at_ m _ _ ha' hm').dr
            split at hb
            · rename_i hl
              refine ⟨b, ⟨a, a', rfl, rfl, .inl ⟨wa, wb, b, g1, g3, fun _ => hitsD_at g4 g2 hb, ?_⟩⟩, k _ _ (c.flat (flat_bl _))⟩
              rw [g2.length, g4.length, hl]; simp
            · rename_i hl
              cases hb
              refine ⟨false, ⟨a, a', rfl, rfl, .inl ⟨wa, wb, false, g1, g3, fun z => absurd (by rw [← g2.length, ← g4.length]; exact z) hl, by simp⟩⟩, k _ _ (c.flat (flat_bl _))⟩
          · rename_i ka kb hm hm'
            obtain ⟨wa, g1, g2⟩ := (c.at_ n _ _ ha hm).drT
            obtain ⟨wb, g3, g4⟩ := (c.at_ m _ _ ha' hm').drT
            split at hb
            · rename_i hl
              refine ⟨b, ⟨a, a', rfl, rfl, .inr ⟨wa, wb, b, g1, g3, fun _ => hitsD_at g4 g2 hb, ?_⟩⟩, k _ _ (c.flat (flat_bl _))⟩
              rw [g2.length, g4.length, hl]; simp
            · rename_i hl
              cases hb
              refine ⟨false, ⟨a, a', rfl, rfl, .inr ⟨wa, wb, false, g1, g3, fun z => absurd (by rw [← g2.length, ← g4.length]; exact z) hl, by simp⟩⟩, k _ _ (c.flat (flat_bl _))⟩
          · cases hb
    · exact k.elim
  · exact k.elim⟩
theorem oc_deq (hu : X.A.units + 1 < cLine) : CmO X W .Eq gDEq := ⟨_, op_deq hu, simO_deq id⟩
theorem oc_dne (hu : X.A.units + 1 < cLine) : CmO X W .NotEq gDNe := ⟨_, op_dne hu, simO_deq not⟩
end
/-! a display with tuple keys -/
def mergeT (kvs more : List (List Key × V)) : List (List Key × V) := more.foldl (fun acc kv => putK acc kv.1 kv.2) kvs
def tDispT (trs : List (TE × TE)) : TE := fun σ H Q => ∀ p, H p = none → tPairs trs σ (upd H p (.dT [])) fun ps H2 => H2 p = some (.dT []) ∧ ∃ kvs : List (List Key × Addr × V), ps = kvs.map (fun kv => (V.ref kv.2.1, kv.2.2)) ∧
  (∀ kv ∈ kvs, H2 kv.2.1 = some (.tup (kv.1.map kV))) ∧ kvs.length ≤ 15 ∧ Q (.ref p) (upd H2 p (.dT (mergeT [] (kvs.map fun kv => (kv.1, kv.2.2)))))
theorem kt_merge {H : Hp} : ∀ {more : List (List Key × Addr × V)} {ps : List (List Key × Addr × Value)} {kvs : List (List Key × V)} {xs : List (List Key × Addr × Value)}, Paired (fun (p : List Key × Addr × V) (q : List Key × Addr × Value) => p.1 = q.1 ∧ p.2.1 = q.2.1 ∧ H p.2.1 = some (.tup (p.1.map kV)) ∧ RelV p.2.2 q.2.2) more ps → KT H kvs xs →
    KT H (mergeT kvs (more.map fun kv => (kv.1, kv.2.2))) (storedAllH xs ps)
  | [], _, kvs, xs, r, q => by cases r; exact q
  | (k, a, v) :: more, _, kvs, xs, r, q => by
    cases r with
    | @cons _ y _ ys p t =>
      obtain ⟨p1, p2, p3, p4⟩ := p
      obtain ⟨k', a', u⟩ := y
      have p1 : k = k' := p1
      have p2 : a = a' := p2
      subst p1 p2
      exact kt_merge (more := more) (ps := ys) (kvs := putK kvs k v) (xs := storedH xs k a u) t (q.put k p3 p4)
theorem length_mergeT : ∀ (more kvs : List (List Key × V)), (mergeT kvs more).length ≤ kvs.length + more.length
  | [], kvs => by show kvs.length ≤ kvs.length + 0; omega
  | p :: r, kvs => by
    have h1 := length_mergeT r (putK kvs p.1 p.2)
    have h2 := length_putK kvs p.1 p.2
    show (mergeT (putK kvs p.1 p.2) r).length ≤ _
    rw [List.length_cons]; omega
theorem carriesH_of {P : Program} {w : World} {H : Hp} {h : Heap} (ok : HOk P w H h) : ∀ {kvs : List (List Key × Addr × V)} {ws : List (Value × Value)}, VV (kvs.map fun kv => (V.ref kv.2.1, kv.2.2)) ws → (∀ kv ∈ kvs, H kv.2.1 = some (.tup (kv.1.map kV))) →
    ∃ ps, CarriesH (tupleKind (mixKind P w)) h ws ps ∧ Paired (fun (p : List Key × Addr × V) (q : List Key × Addr × Value) => p.1 = q.1 ∧ p.2.1 = q.2.1 ∧ H p.2.1 = some (.tup (p.1.map kV)) ∧ RelV p.2.2 q.2.2) kvs ps
  | [], _, r, _ => by rw [List.map_nil] at r; cases r; exact ⟨[], True.intro, .nil⟩
  | (k, a, v) :: kvs, _, r, hk => by
    rw [List.map_cons] at r
    cases r with
    | @cons x b as bs h t =>
      obtain ⟨ps, c, q⟩ := carriesH_of ok t fun kv m => hk kv (List.mem_cons_of_mem _ m)
      obtain ⟨b1, b2⟩ := b
      obtain ⟨h1, h2⟩ := h
      have h1 : b1 = Value.ref a := h1
      subst h1
      have hka := hk (k, a, v) List.mem_cons_self
      exact ⟨(k, a, b2) :: ps, ⟨rfl, rfl, key_of ok hka, c⟩, .cons ⟨rfl, rfl, hka, h2⟩ q⟩
theorem pe_dispT {X : Cx} {pos : Pos} {keys : List (Option Expr)} {values : List Expr} {trs : List (TE × TE)} (hu : X.A.units + 1 < cLine) (h : PPs X pos keys values trs) (hall : keys.all (·.isSome) = true) (hl : keys.length = values.length) (h0 : keys ≠ [])
    (h15 : keys.length ≤ 15) : PE X (.Dict keys values pos) (tDispT trs) := by
  refine ⟨fun pins s σ H Q I q => ?_⟩
  have hn := I.hok.fresh (Nat.le_refl s.heap.objs.size)
  have I1 := I.laid (a := s.heap.objs.size) (o := .dT []) (h' := s.heap.push { cls := .type "dict", data := .dict #[] }) (t' := s.toks) (fun _ _ q => Heap.get?_push_of_some _ q) (Nat.le_refl _) (dt_empty s.heap I.big)
  have hpl := pairTrees_length keys values X.env pos hall hl
  rw [arm_eval_Dict, zip_pairTrees keys values X.env pos hall hl, dictDisplay_pairs _ (by intro he; rw [he] at hpl; exact h0 (List.length_eq_zero_iff.mp hpl.symm)) (by omega)]
  refine wpAny_bind (wpAny_standAt (wpAny_bind (wpAny_subDictH (knd := tupleKind (mixKind X.prog X.w)) (show X.A.units < cLine by omega) (by omega) (thn (h.run pins _ σ _ _ I1 (q _ hn)) fun ws s2 ⟨ps, H2, I2, rel, e, kvs, ep, hk, lk, q2⟩ => ?_))))
  subst ep
  obtain ⟨ps, c, rk⟩ := carriesH_of (P := X.prog) (w := X.w) I2.hok rel hk
  obtain ⟨z, hd, xs0, r0, dd⟩ := dt_of I2.hok e
  cases r0
  refine ⟨ps, c, dd, fun h' tk dd' hs => wpAny_pure ⟨.ref s.heap.objs.size, _, ?_, rfl, q2⟩⟩
  have hz : (mergeT [] (kvs.map fun kv => (kv.1, kv.2.2))).length ≤ sizeLine := by
    have h1 := length_mergeT (kvs.map fun kv => (kv.1, kv.2.2)) []
    rw [List.length_nil, List.length_map] at h1
    rw [sizeLine_eq]; omega
  obtain ⟨o', es, ep, ho, h2, h3, h4, _, h5⟩ := dd'
  refine d_write (t' := tk) I2 (by rw [e]; exact True.intro) hs ⟨o', ho⟩ ⟨hz, hd, _, (kt_merge rk .nil).keeps fun b ys eb => ?_, o', es, ep, ho, h2, h3, h4, h5⟩
  rw [upd_ne (ne_of eb e (fun z => nomatch z))]
  exact eb
/-- the pairs -/
def aPairs : List (EF × EF) → Ro → Mu → Res (List (D × D))
  | [], _, μ => .val [] μ
  | (f, g) :: r, ρ, μ => (f ρ μ).bind fun x μ1 => (g ρ μ1).bind fun y μ2 => (aPairs r ρ μ2).bind fun ps μ3 => .val ((x, y) :: ps) μ3
def SimPr (K : PySem.W.Frag) (W : WX) : List (TE × TE) → List (EF × EF) → Prop
  | [], [] => True
  | (t, u) :: r, (f, g) :: s => SimE K W t f ∧ SimE K W u g ∧ SimPr K W r s
  | _, _ => False
def pTmp (ps : List (V × V)) (ds : List (D × D)) : List (V × D) := (ps.zip ds).flatMap fun z => [(z.1.1, z.2.1), (z.1.2, z.2.2)]
theorem simP_run {K : PySem.W.Frag} {W : WX} {H0 S0 : Hp} {ad0 : Ad} {σ : L2.St} : ∀ {trs : List (TE × TE)} {fs : List (EF × EF)} {tmp : List (V × D)} {ρ : Ro} {μ : Mu} {H : Hp} {Q : List (V × V) → Hp → Prop}, SimPr K W trs fs → Rel K H0 S0 ad0 tmp ρ μ σ H →
    (match aPairs fs ρ μ with
      | .val ds μ2 => ∀ ps H2, ps.length = ds.length → Rel K H0 S0 ad0 (pTmp ps ds ++ tmp) ρ μ2 σ H2 → Q ps H2
      | .exc x μ2 => ∀ cls dd H, RelX K H0 S0 ad0 tmp ρ μ2 σ H x cls dd → W cls dd σ H
      | .fail => False) → tPairs trs σ H Q
  | [], [], tmp, ρ, μ, H, Q, _, R, k => k [] H rfl R
  | (t, u) :: r, (f, g) :: s, tmp, ρ, μ, H, Q, ⟨h1, h2, h3⟩, R, k => by
    unfold aPairs at k
    refine h1.run R ?_
    cases e1 : f ρ μ with
    | fail => rw [e1] at k; exact k.elim
    | exc x μ1 => rw [e1] at k; exact k
    | val d1 μ1 =>
      rw [e1] at k
      intro v1 H1 R1
      refine h2.run R1 ?_
      simp only [bind_val] at k
      cases e2 : g ρ μ1 with
      | fail => rw [e2] at k; exact k.elim
      | exc x μ1 => rw [e2] at k; exact fun cls dd H r => k cls dd H r.pop
      | val d2 μ2 =>
        rw [e2] at k
        intro v2 H2 R2
        refine simP_run (ρ := ρ) (μ := μ2) h3 R2 ?_
        simp only [bind_val] at k
        cases e3 : aPairs s ρ μ2 with
        | fail => rw [e3] at k; exact k.elim
        | exc x μ1 => rw [e3] at k; exact fun cls dd H r => k cls dd H r.pop.pop
        | val ds μ3 =>
          rw [e3] at k
          intro ps H3 hl R3
          refine k ((v1, v2) :: ps) H3 (by simp [hl]) (R3.sub fun p m => ?_)
          show p ∈ pTmp ps ds ++ (v2, d2) :: (v1, d1) :: tmp
          have m : p ∈ (v1, d1) :: (v2, d2) :: (pTmp ps ds ++ tmp) := m
          rcases List.mem_cons.mp m with m | m
          · rw [m]; exact List.mem_append_right _ (List.mem_cons_of_mem _ List.mem_cons_self)
          · rcases List.mem_cons.mp m with m | m
            · rw [m]; exact List.mem_append_right _ List.mem_cons_self
            · rcases List.mem_append.mp m with m | m
              · exact List.mem_append_left _ m
              · exact List.mem_append_right _ (List.mem_cons_of_mem _ (List.mem_cons_of_mem _ m))
  | [], _ :: _, _, _, _, _, _, h, _, _ => h.elim
  | _ :: _, [], _, _, _, _, _, h, _, _ => h.elim
/-- the pairs' keys -/
@[simp] def keyT : List (D × D) → Option (List (List Key × D))
  | [] => some []
  | (.tup ds, v) :: r => (ksOf ds).bind fun k => (keyT r).map fun kvs => (k, v) :: kvs
  | _ :: _ => none
@[simp] def keyK : List (D × D) → Option (List (Key × D))
  | [] => some []
  | (k, v) :: r => (kOf k).bind fun k => (keyK r).map fun kvs => (k, v) :: kvs
@[simp] def mergeD {κ : Type} [DecidableEq κ] (kvs more : List (κ × D)) : List (κ × D) := more.foldl (fun acc kv => putD acc kv.1 kv.2) kvs
theorem dr_merge {κ : Type} [DecidableEq κ] {K : PySem.W.Frag} {S : Hp} {ad : Ad} : ∀ {wm : List (κ × V)} {km : List (κ × D)} {ws : List (κ × V)} {kvs : List (κ × D)}, DR K S ad wm km → DR K S ad ws kvs → DR K S ad (wm.foldl (fun acc kv => putK acc kv.1 kv.2) ws) (mergeD kvs km)
  | [], _, ws, kvs, r, q => by cases r; exact q
  | (k, v) :: wm, _, ws, kvs, r, q => by
    cases r with
    | @cons _ _ d _ km p t => exact dr_merge (wm := wm) (km := km) (ws := putK ws k v) (kvs := putD kvs k d) t (q.put k p)
theorem keyT_at {K : PySem.W.Frag} {S H : Hp} {ad : Ad} (sh : Same S H) : ∀ {ps : List (V × V)} {ds : List (D × D)} {kvs : List (List Key × D)}, ps.length = ds.length → (∀ p ∈ pTmp ps ds, Rp K S ad p.1 p.2) → keyT ds = some kvs →
    ∃ ks : List (List Key × Addr × V), ps = ks.map (fun kv => (V.ref kv.2.1, kv.2.2)) ∧ (∀ kv ∈ ks, H kv.2.1 = some (.tup (kv.1.map kV))) ∧ DR K S ad (ks.map fun kv => (kv.1, kv.2.2)) kvs ∧ ks.length = ds.length
  | [], [], kvs, _, _, h => by cases h; exact ⟨[], rfl, by simp, .nil, rfl⟩
  | (x, y) :: ps, (d, e) :: ds, kvs, hl, hr, h => by
    have r1 : Rp K S ad x d := hr (x, d) (by simp [pTmp])
    have r2 : Rp K S ad y e := hr (y, e) (by simp [pTmp])
    cases d <;> simp only [keyT] at h <;> first | cases h | skip
    rename_i xs
    simp only [Option.bind_eq_some_iff, Option.map_eq_some_iff] at h
    obtain ⟨k, h1, kvs', h2, rfl⟩ := h
    obtain ⟨ks, g1, g2, g3, g4⟩ := keyT_at sh (by simpa using hl) (fun p m => hr p (by
      unfold pTmp at m ⊢
      rw [List.zip_cons_cons, List.flatMap_cons]
      exact List.mem_append_right _ m)) h2
    cases r1 with
    | tup hs hr1 =>
      rename_i a vs
      have e1 := ksOf_at hr1 h1
      subst e1
      refine ⟨(k, a, y) :: ks, by rw [g1]; rfl, fun kv m => ?_, .cons r2 g3, by simp [g4]⟩
      rcases List.mem_cons.mp m with m | m
      · subst m; exact sh _ _ hs
      · exact g2 kv m
  | [], _ :: _, _, hl, _, _ => by simp at hl
  | _ :: _, [], _, hl, _, _ => by simp at hl
theorem keyK_at {K : PySem.W.Frag} {S : Hp} {ad : Ad} : ∀ {ps : List (V × V)} {ds : List (D × D)} {kvs : List (Key × D)}, ps.length = ds.length → (∀ p ∈ pTmp ps ds, Rp K S ad p.1 p.2) → keyK ds = some kvs →
    ∃ ks : List (Key × V), ps = ks.map (fun kv => (kV kv.1, kv.2)) ∧ DR K S ad ks kvs ∧ ks.length = ds.length
  | [], [], kvs, _, _, h => by cases h; exact ⟨[], rfl, .nil, rfl⟩
  | (x, y) :: ps, (d, e) :: ds, kvs, hl, hr, h => by
    have r1 : Rp K S ad x d := hr (x, d) (by simp [pTmp])
    have r2 : Rp K S ad y e := hr (y, e) (by simp [pTmp])
    simp only [keyK, Option.bind_eq_some_iff, Option.map_eq_some_iff] at h
    obtain ⟨k, h1, kvs', h2, rfl⟩ := h
    obtain ⟨ks, g1, g3, g4⟩ := keyK_at (by simpa using hl) (fun p m => hr p (by
      unfold pTmp at m ⊢
      rw [List.zip_cons_cons, List.flatMap_cons]
      exact List.mem_append_right _ m)) h2
    exact ⟨(k, y) :: ks, by rw [g1, kOf_at r1 h1]; rfl, .cons r2 g3, by simp [g4]⟩
  | [], _ :: _, _, hl, _, _ => by simp at hl
  | _ :: _, [], _, hl, _, _ => by simp at hl
@[simp] def emptyT (μ : Mu) (n : Nat) : Bool := match μ[n]? with
  | some (.dT []) => true
  | _ => false
@[simp] def emptyK (μ : Mu) (n : Nat) : Bool := match μ[n]? with
  | some (.dK []) => true
  | _ => false
def eDispT (fs : List (EF × EF)) : EF := fun ρ μ => (aPairs fs ρ (μ ++ [.dT []])).bind fun ds μ2 => match keyT ds with
  | some kvs => if ds.length ≤ 15 ∧ emptyT μ2 μ.length = true then .val (.ref μ.length) (μ2.set μ.length (.dT (mergeD [] kvs))) else .fail
  | none => .fail
def eDispK (fs : List (EF × EF)) : EF := fun ρ μ => (aPairs fs ρ (μ ++ [.dK []])).bind fun ds μ2 => match keyK ds with
  | some kvs => if ds.length ≤ 15 ∧ emptyK μ2 μ.length = true then .val (.ref μ.length) (μ2.set μ.length (.dK (mergeD [] kvs))) else .fail
  | none => .fail
theorem emptyT_at {μ : Mu} {n : Nat} (h : emptyT μ n = true) : μ[n]? = some (.dT []) := by
  unfold emptyT at h
  split at h
  · rename_i e; exact e
  · cases h
theorem emptyK_at {μ : Mu} {n : Nat} (h : emptyK μ n = true) : μ[n]? = some (.dK []) := by
  unfold emptyK at h
  split at h
  · rename_i e; exact e
  · cases h
theorem simE_dispT {K : PySem.W.Frag} {W : WX} {trs : List (TE × TE)} {fs : List (EF × EF)} (hp : SimPr K W trs fs) : SimE K W (tDispT trs) (eDispT fs) := ⟨fun {H0 S0 ad0 tmp ρ μ σ H Q} R k p hn => by
  obtain ⟨S, ad, c⟩ := R
  have R1 : Rel K H0 S0 ad0 ((.ref p, .ref μ.length) :: tmp) ρ (μ ++ [.dT []]) σ (upd H p (.dT [])) := newC c hn ⟨[], upd_same, rfl, .nil⟩
  obtain ⟨Sl, adl, cl⟩ := R1
  have hR : Rel K (upd H p (.dT [])) Sl adl ((.ref p, .ref μ.length) :: tmp) ρ (μ ++ [.dT []]) σ (upd H p (.dT [])) := ⟨Sl, adl, cl.here⟩
  have hpl : adl[μ.length]? = some p := by
    have := cl.hd
    cases this with
    | ref h => exact h
  refine simP_run (K := K) (W := W) (H0 := upd H p (.dT [])) (S0 := Sl) (ad0 := adl) hp hR ?_
  unfold eDispT at k
  cases e : aPairs fs ρ (μ ++ [.dT []]) with
  | fail => rw [e] at k; exact k.elim
  | exc x μ1 =>
    rw [e] at k
    rintro cls dd H' ⟨e1, S', ad', c', q⟩
    exact k cls dd H' ⟨e1, S', ad', (cl.trans c').pop, q⟩
  | val ds μ2 =>
    rw [e] at k
    simp only [bind_val] at k
    rintro ps H2 hl ⟨S2, ad2, c2⟩
    split at k
    · rename_i kvs hk
      split at k
      · rename_i hc
        have he := emptyT_at hc.2
        have ha2 := c2.adp _ _ hpl
        obtain ⟨ws, g1, g2, g3⟩ := c2.at_ _ _ _ ha2 he
        have e0 : ws = [] := by simpa using g2
        subst e0
        obtain ⟨ks, f1, f2, f3, f4⟩ := keyT_at c2.sh hl (fun q m => c2.tm q (List.mem_append_left _ m)) hk
        refine ⟨g1, ks, f1, f2, by rw [f4]; exact hc.1, k _ _ ⟨S2, ad2, ?_⟩⟩
        have cw := wrDT (cl.trans c2) ha2 (dr_merge f3 .nil)
        exact (cw.tmps fun q m => c2.tm q (List.mem_append_right _ (List.mem_cons_of_mem _ m))).push (.ref ha2)
      · exact k.elim
    · exact k.elim⟩
theorem simE_dispK {K : PySem.W.Frag} {W : WX} {trs : List (TE × TE)} {fs : List (EF × EF)} (hp : SimPr K W trs fs) : SimE K W (tDisp trs) (eDispK fs) := ⟨fun {H0 S0 ad0 tmp ρ μ σ H Q} R k p hn => by
  obtain ⟨S, ad, c⟩ := R
  have R1 : Rel K H0 S0 ad0 ((.ref p, .ref μ.length) :: tmp) ρ (μ ++ [.dK []]) σ (upd H p (.dK [])) := newC c hn ⟨[], upd_same, rfl, .nil⟩
  obtain ⟨Sl, adl, cl⟩ := R1
  have hR : Rel K (upd H p (.dK [])) Sl adl ((.ref p, .ref μ.length) :: tmp) ρ (μ ++ [.dK []]) σ (upd H p (.dK [])) := ⟨Sl, adl, cl.here⟩
  have hpl : adl[μ.length]? = some p := by
    have := cl.hd
    cases this with
    | ref h => exact h
  refine simP_run (K := K) (W := W) (H0 := upd H p (.dK [])) (S0 := Sl) (ad0 := adl) hp hR ?_
  unfold eDispK at k
  cases e : aPairs fs ρ (μ ++ [.dK []]) with
  | fail => rw [e] at k; exact k.elim
  | exc x μ1 =>
    rw [e] at k
    rintro cls dd H' ⟨e1, S', ad', c', q⟩
    exact k cls dd H' ⟨e1, S', ad', (cl.trans c').pop, q⟩
  | val ds μ2 =>
    rw [e] at k
    simp only [bind_val] at k
    rintro ps H2 hl ⟨S2, ad2, c2⟩
    split at k
    · rename_i kvs hk
      split at k
      · rename_i hc
        have he := emptyK_at hc.2
        have ha2 := c2.adp _ _ hpl
        obtain ⟨ws, g1, g2, g3⟩ := c2.at_ _ _ _ ha2 he
        have e0 : ws = [] := by simpa using g2
        subst e0
        obtain ⟨ks, f1, f3, f4⟩ := keyK_at hl (fun q m => c2.tm q (List.mem_append_left _ m)) hk
        refine ⟨g1, ks, f1, by rw [f4]; exact hc.1, k _ _ ⟨S2, ad2, ?_⟩⟩
        have cw := wrDK (cl.trans c2) ha2 (dr_merge f3 .nil)
        exact (cw.tmps fun q m => c2.tm q (List.mem_append_right _ (List.mem_cons_of_mem _ m))).push (.ref ha2)
      · exact k.elim
    · exact k.elim⟩
def DP (X : Cx) (W : WX) (pos : Pos) (keys : List (Option Expr)) (values : List Expr) (fs : List (EF × EF)) : Prop := ∃ trs, PPs X pos keys values trs ∧ SimPr X.K W trs fs
section
variable {X : Cx} {W : WX} {pos : Pos} {keys : List (Option Expr)} {values : List Expr} {fs : List (EF × EF)} {k v : Expr} {f g : EF}
theorem dp_nil : DP X W pos [] [] [] := ⟨[], pps_nil, True.intro⟩
theorem dp_cons (hk : DE X W k f) (hv : DE X W v g) (hr : DP X W pos keys values fs) : DP X W pos (some k :: keys) (v :: values) ((f, g) :: fs) :=
  let ⟨_, p1, q1⟩ := hk; let ⟨_, p2, q2⟩ := hv; let ⟨_, p3, q3⟩ := hr; ⟨_, pps_cons p1 p2 p3, q1, q2, q3⟩
theorem de_dispT (hu : X.A.units + 1 < cLine) (h : DP X W pos keys values fs) (hall : keys.all (·.isSome) = true := by rfl) (hl : keys.length = values.length := by rfl) (h0 : keys ≠ [] := by intro z; cases z) (h15 : keys.length ≤ 15 := by decide) : DE X W (.Dict keys values pos) (eDispT fs) :=
  let ⟨_, p, q⟩ := h; ⟨_, pe_dispT hu p hall hl h0 h15, simE_dispT q⟩
theorem de_dispK (h : DP X W pos keys values fs) (hall : keys.all (·.isSome) = true := by rfl) (hl : keys.length = values.length := by rfl) (h0 : keys ≠ [] := by intro z; cases z) (h15 : keys.length ≤ 15 := by decide) : DE X W (.Dict keys values pos) (eDispK fs) :=
  let ⟨_, p, q⟩ := h; ⟨_, pe_disp p hall hl h0 h15, simE_dispK q⟩
end
end Dn
theorem Dn.hu1 {n : Nat} (h : n + 64 < PySem.cLine) : n + 1 < PySem.cLine := by omega

/-! Dn15: instances: fields, methods, making; exceptions: raise, try, calls that may raise. ca: where the classes stand, by their numbers. -/
namespace Dn
open PySem PySem.Spec PyProof.Rows L2
/-! fields -/
@[simp] def lkD (f : Str) : List (Str × D) → Option D
  | [] => none
  | (g, d) :: r => if f = g then some d else lkD f r
@[simp] def putFD (f : Str) (d : D) : List (Str × D) → List (Str × D)
  | [] => [(f, d)]
  | (g, x) :: r => if g = f then (g, d) :: r else (g, x) :: putFD f d r
section
variable {K : PySem.W.Frag} {S : Hp} {ad : Ad}
theorem lkD_some {f : Str} : ∀ {ws : List (Str × V)} {fs : List (Str × D)} {d : D}, DR K S ad ws fs → lkD f fs = some d → ∃ v, ws.lookup f = some v ∧ Rp K S ad v d
  | [], _, d, r, h => by cases r; cases h
  | (g, v) :: ws, _, d, r, h => by
    cases r with
    | @cons _ _ x _ fs p t =>
      simp only [lkD] at h
      by_cases e : f = g
      · subst e
        rw [if_pos rfl] at h
        cases h
        exact ⟨v, by simp [List.lookup], p⟩
      · rw [if_neg e] at h
        obtain ⟨u, h1, h2⟩ := lkD_some t h
        have eb : (f == g) = false := beq_eq_false_iff_ne.mpr e
        exact ⟨u, by simp only [List.lookup, eb]; exact h1, h2⟩
theorem lkD_none {f : Str} : ∀ {ws : List (Str × V)} {fs : List (Str × D)}, DR K S ad ws fs → lkD f fs = none → ws.lookup f = none
  | [], _, r, h => by cases r; rfl
  | (g, v) :: ws, _, r, h => by
    cases r with
    | @cons _ _ x _ fs p t =>
      simp only [lkD] at h
      by_cases e : f = g
      · subst e
        rw [if_pos rfl] at h
        cases h
      · rw [if_neg e] at h
        have eb : (f == g) = false := beq_eq_false_iff_ne.mpr e
        simp only [List.lookup, eb]
        exact lkD_none t h
theorem putFD_at {f : Str} {v : V} {d : D} (h : Rp K S ad v d) : ∀ {ws : List (Str × V)} {fs : List (Str × D)}, DR K S ad ws fs → DR K S ad (putF f v ws) (putFD f d fs)
  | [], _, r => by cases r; exact .cons h .nil
  | (g, x) :: ws, _, r => by
    cases r with
    | @cons _ _ y _ fs p t =>
      simp only [putF, putFD]
      by_cases e : g = f
      · rw [if_pos e, if_pos e]; exact .cons h t
      · rw [if_neg e, if_neg e]; exact .cons p (putFD_at h t)
theorem putFD_len (f : Str) (d : D) : ∀ fs : List (Str × D), (putFD f d fs).length ≤ fs.length + 1
  | [] => by simp
  | (g, x) :: r => by
    have := putFD_len f d r
    simp only [putFD]
    split <;> simp <;> omega
end
section
variable {K : PySem.W.Frag} {W : WX} {H0 S0 : Hp} {ad0 : Ad} {S : Hp} {ad : Ad} {tmp : List (V × D)} {ρ : Ro} {μ : Mu} {σ : L2.St} {H : Hp}
theorem NdAt.insR {a C : Addr} {i : Nat} {fs : List (Str × D)} (h : NdAt K S ad H a (.ins i C fs)) : ∃ dx ws, H a = some (.ins C dx ws) ∧ DR K S ad ws fs := let ⟨dx, ws, h1, h2, h3⟩ := h; ⟨dx, ws, h1, .of h2 h3⟩
theorem wrIns {n : Nat} {i : Nat} {a C dx : Addr} {fs : List (Str × D)} {ws : List (Str × V)} (c : Core K H0 S0 ad0 S ad tmp ρ μ σ H) (ha : ad[n]? = some a) (r : DR K S ad ws fs) : Core K H0 S0 ad0 S ad tmp ρ (μ.set n (.ins i C fs)) σ (upd H a (.ins C dx ws)) := c.wr ha ⟨dx, ws, upd_same, r.keys, r.vals⟩
end
variable (ca : Nat → Addr)
/-- an instance of one of the classes is -/
@[simp] def insOf (is : List Nat) (d : D) (μ : Mu) : Option (Nat × Nat × List (Str × D)) := match d with
  | .ref n => (match μ[n]? with
    | some (.ins i C fs) => if i ∈ is ∧ C = ca i then some (n, i, fs) else none
    | _ => none)
  | _ => none
@[simp] def eFld (is : List Nat) (f : Str) (e : EF) : EF := fun ρ μ => (e ρ μ).bind fun d μ1 => match insOf ca is d μ1 with
  | some p => (match lkD f p.2.2 with
    | some x => .val x μ1
    | none => .fail)
  | none => .fail
@[simp] def sFldS (is : List Nat) (f : Str) (o v : EF) : SF := fun ρ μ => match v ρ μ with
  | .val y μ1 => (match o ρ μ1 with
    | .val d μ2 => (match insOf ca is d μ2 with
      | some p => if p.2.2.length < 900 then .nx ρ (μ2.set p.1 (.ins p.2.1 (ca p.2.1) (putFD f y p.2.2))) else .fail
      | none => .fail)
    | _ => .fail)
  | .exc x μ1 => .exc x ρ μ1
  | .fail => .fail
@[simp] def sFldA (is : List Nat) (f : Str) (o v : EF) (g : GF) : SF := fun ρ μ => match o ρ μ with
  | .val d μ1 => (match insOf ca is d μ1 with
    | some p => (match lkD f p.2.2 with
      | some x => (match v ρ μ1 with
        | .val y μ2 => (match g x y μ2 with
          | .val z μ3 => (match insOf ca is d μ3 with
            | some q => if q.2.1 = p.2.1 ∧ q.2.2.length < 900 then .nx ρ (μ3.set q.1 (.ins q.2.1 (ca q.2.1) (putFD f z q.2.2))) else .fail
            | none => .fail)
          | _ => .fail)
        | _ => .fail)
      | none => .fail)
    | none => .fail)
  | _ => .fail
/-- o.m(..), m of the class i -/
@[simp] def eMeth (i n : Nat) (m : Str) (F : List D → Mu → Res D) (o : EF) (a : AF) : EF := fun ρ μ => (o ρ μ).bind fun d μ1 => match insOf ca [i] d μ1 with
  | some p => if lkD m p.2.2 = none then (a ρ μ1).bind fun ds μ2 => if ds.length + 1 = n then (match F (d :: ds) μ2 with
    | .val z μ3 => .val z μ3
    | _ => .fail) else .fail else .fail
  | none => .fail
/-- .. that may raise -/
@[simp] def eMethX (i n : Nat) (m : Str) (F : List D → Mu → Res D) (o : EF) (a : AF) : EF := fun ρ μ => (o ρ μ).bind fun d μ1 => match insOf ca [i] d μ1 with
  | some p => if lkD m p.2.2 = none then (a ρ μ1).bind fun ds μ2 => if ds.length + 1 = n then F (d :: ds) μ2 else .fail else .fail
  | none => .fail
@[simp] def eMake (i n : Nat) (F : List D → Mu → Res D) (a : AF) : EF := fun ρ μ => (a ρ μ).bind fun ds μ1 => if ds.length + 1 = n then (match F (.ref μ1.length :: ds) (μ1 ++ [.ins i (ca i) []]) with
  | .val .non μ2 => .val (.ref μ1.length) μ2
  | _ => .fail) else .fail
@[simp] def eMakeX (i n : Nat) (F : List D → Mu → Res D) (a : AF) : EF := fun ρ μ => (a ρ μ).bind fun ds μ1 => if ds.length + 1 = n then (match F (.ref μ1.length :: ds) (μ1 ++ [.ins i (ca i) []]) with
  | .val .non μ2 => .val (.ref μ1.length) μ2
  | .exc x μ2 => .exc x μ2
  | _ => .fail) else .fail
@[simp] def eCallX (n : Nat) (F : List D → Mu → Res D) (fa : AF) : EF := fun ρ μ => (fa ρ μ).bind fun ds μ1 => if ds.length = n then F ds μ1 else .fail
@[simp] def sRaise (i : Nat) : SF := fun ρ μ => .exc ⟨i, .ref (ca i), []⟩ ρ μ
@[simp] def sTry (tbl : Nat → Option Bool) (b s : SF) : SF := fun ρ μ => match b ρ μ with
  | .exc x ρ1 μ1 => if x.cls = .ref (ca x.ix) then (match tbl x.ix with
    | some true => s ρ1 μ1
    | some false => .exc x ρ1 μ1
    | none => .fail) else .fail
  | o => o
@[simp] def sNever : SF := fun _ _ => .fail
/-! a def that may raise -/
def PostX (K : PySem.W.Frag) (H0 S0 : Hp) (ad0 : Ad) (Q : VK) (E : XK) : Res D → Prop
  | .val d μ => ∀ v H, Rel K H0 S0 ad0 [(v, d)] [] μ [] H → Q v H
  | .exc x μ => ∀ cls dd H, RelX K H0 S0 ad0 [] [] μ [] H x cls dd → E cls dd H
  | .fail => False
def spX (K : PySem.W.Frag) (n : Nat) (F : List D → Mu → Res D) : Sp := fun vs H Q E => ∃ (S : Hp) (ad : Ad) (μ : Mu) (ds : List D), vs.length = n ∧ ds.length = n ∧ Core K H S ad S ad (vs.zip ds) [] μ [] H ∧ PostX K H S ad Q E (F ds μ)
section
variable {ca}
variable {K : PySem.W.Frag} {W : WX} {H0 S0 : Hp} {ad0 : Ad} {S : Hp} {ad : Ad} {tmp : List (V × D)} {ρ : Ro} {μ : Mu} {σ : L2.St} {H : Hp}
theorem insOf_at {is : List Nat} {d : D} {v : V} {p : Nat × Nat × List (Str × D)} (c : Core K H0 S0 ad0 S ad tmp ρ μ σ H) (r : Rp K S ad v d) (h : insOf ca is d μ = some p) : ∃ a dx ws, v = .ref a ∧ d = .ref p.1 ∧ ad[p.1]? = some a ∧ p.2.1 ∈ is ∧ H a = some (.ins (ca p.2.1) dx ws) ∧ DR K S ad ws p.2.2 := by
  unfold insOf at h
  split at h
  · rename_i n
    split at h
    · rename_i i C fs hm
      split at h
      · rename_i hc
        cases h
        obtain ⟨h1, rfl⟩ := hc
        cases r with
        | ref ha =>
          obtain ⟨dx, ws, g1, g2⟩ := (c.at_ n _ _ ha hm).insR
          exact ⟨_, dx, ws, rfl, rfl, ha, h1, g1, g2⟩
      · cases h
    · cases h
  · cases h
theorem simE_fld {is : List Nat} {f : Str} {te : TE} {fe : EF} (hC : ∀ i ∈ is, Cls K (ca i) ∧ NoAttr K (ca i) f) (he : SimE K W te fe) : SimE K W (tFld K te f) (eFld ca is f fe) := ⟨fun {H0 S0 ad0 tmp ρ μ σ H Q} R k => by
  refine he.run R ?_
  unfold eFld at k
  cases e1 : fe ρ μ with
  | fail => rw [e1] at k; exact k.elim
  | exc x μ1 => rw [e1] at k; exact k
  | val d μ1 =>
    rw [e1] at k
    simp only [bind_val] at k
    intro v H1 R1
    obtain ⟨S, ad, c, r⟩ := R1.one
    split at k
    · rename_i p hp
      obtain ⟨a, dx, ws, rfl, _, ha, hi, g1, g2⟩ := insOf_at c r hp
      split at k
      · rename_i x hx
        obtain ⟨u, l1, l2⟩ := lkD_some g2 hx
        exact ⟨a, _, dx, ws, u, rfl, g1, (hC _ hi).1, (hC _ hi).2, l1, k _ _ ⟨S, ad, c.push l2⟩⟩
      · exact k.elim
    · exact k.elim⟩
theorem simS_fld {is : List Nat} {f : Str} {to tv : TE} {fo fv : EF} (hC : ∀ i ∈ is, Cls K (ca i) ∧ NoAttr K (ca i) f) (ho : SimE K W0 to fo) (hv : SimE K W tv fv) : SimS K W (sFld K to tv f) (sFldS ca is f fo fv) := ⟨fun {H0 S0 ad0 tmp ρ μ σ H E} R k => by
  refine hv.run R ?_
  unfold sFldS at k
  cases e1 : fv ρ μ with
  | fail => rw [e1] at k; exact k.elim
  | exc x μ1 => rw [e1] at k; exact fun cls dd H r => k cls dd σ H r
  | val y μ1 =>
    rw [e1] at k
    intro u H1 R1
    refine ho.run R1 ?_
    simp only at k
    split at k
    · rename_i d μ2 e2
      rw [e2]
      intro v H2 R2
      obtain ⟨S, ad, c⟩ := R2
      have r1 := c.hd
      have r0 := c.pop.hd
      split at k
      · rename_i p hp
        obtain ⟨a, dx, ws, rfl, _, ha, hi, g1, g2⟩ := insOf_at c r1 hp
        split at k
        · rename_i hl
          exact ⟨a, _, dx, ws, rfl, g1, (hC _ hi).1, (hC _ hi).2, by rw [g2.length]; omega, k _ _ ⟨S, ad, wrIns c.pop.pop ha (putFD_at r0 g2)⟩⟩
        · exact k.elim
      · exact k.elim
    · exact k.elim⟩
theorem simE_meth {i n : Nat} {m : Str} {F : List D → Mu → Res D} {to : TE} {ta : TA} {fo : EF} {fa : AF} (ho : SimE K W to fo) (ha : SimA K W ta fa) : SimE K W (tMeth (ca i) m (spN K n F) [] E0 to ta) (eMeth ca i n m F fo fa) := ⟨fun {H0 S0 ad0 tmp ρ μ σ H Q} R k => by
  refine ho.run R ?_
  unfold eMeth at k
  cases e1 : fo ρ μ with
  | fail => rw [e1] at k; exact k.elim
  | exc x μ1 => rw [e1] at k; exact k
  | val d μ1 =>
    rw [e1] at k
    simp only [bind_val] at k
    intro v H1 R1
    obtain ⟨S, ad, c⟩ := R1
    split at k
    · rename_i p hp
      obtain ⟨a, dx, ws, rfl, _, had, hi, g1, g2⟩ := insOf_at c c.hd hp
      have hi : p.2.1 = i := by simpa using hi
      rw [hi] at g1
      split at k
      · rename_i hl
        refine ⟨a, dx, ws, rfl, g1, lkD_none g2 hl, ha.run ⟨S, ad, c⟩ ?_⟩
        cases e2 : fa ρ μ1 with
        | fail => rw [e2] at k; exact k.elim
        | exc x μ2 => rw [e2] at k; exact fun cls dd H r => k cls dd H r.pop
        | val ds μ2 =>
          rw [e2] at k
          simp only [bind_val] at k
          intro vs H2 hvl R2
          split at k
          · rename_i hn
            obtain ⟨S2, ad2, c2, r2⟩ := R2.args hvl
            rw [List.append_nil]
            refine ⟨S2, ad2, μ2, d :: ds, by rw [List.length_cons, hvl]; exact hn, by rw [List.length_cons]; exact hn, (c2.here.tmps (zip_rpL (.cons c2.hd r2))).noslots, ?_⟩
            cases e3 : F (d :: ds) μ2 with
            | fail => rw [e3] at k; exact k.elim
            | exc x μ3 => rw [e3] at k; exact k.elim
            | val z μ3 =>
              rw [e3] at k
              rintro u H3 ⟨S3, ad3, c3⟩
              exact k u H3 ⟨S3, ad3, c2.pop.keep c3⟩
          · exact k.elim
      · exact k.elim
    · exact k.elim⟩
theorem simE_make {i n : Nat} {F : List D → Mu → Res D} {ta : TA} {fa : AF} (ha : SimA K W ta fa) : SimE K W (tMake (ca i) (spN K n F) [] E0 ta) (eMake ca i n F fa) := ⟨fun {H0 S0 ad0 tmp ρ μ σ H Q} R k => by
  refine ha.run R ?_
  unfold eMake at k
  cases e1 : fa ρ μ with
  | fail => rw [e1] at k; exact k.elim
  | exc x μ1 => rw [e1] at k; exact k
  | val ds μ1 =>
    rw [e1] at k
    simp only [bind_val] at k
    intro vs H1 hvl R1 x dx hx hd hne
    split at k
    · rename_i hn
      obtain ⟨S, ad, c, r⟩ := R1.args hvl
      obtain ⟨f1, f2, f3⟩ := c.fresh hd
      have cf := c.free (o := .own x) f2 f1 f3
      have hx2 : upd H1 dx (.own x) x = none := by rw [upd_ne (Ne.symm hne)]; exact hx
      have c2 := cf.cell hx2 (o := .ins (ca i) dx []) (x := .ins i (ca i) []) ⟨dx, [], upd_same, rfl, .nil⟩
      have hp : (ad ++ [x])[μ1.length]? = some x := by rw [← c.al, List.getElem?_append_right (Nat.le_refl _)]; simp
      rw [List.append_nil]
      refine ⟨S, ad ++ [x], μ1 ++ [.ins i (ca i) []], .ref μ1.length :: ds, by rw [List.length_cons, hvl]; exact hn, by rw [List.length_cons]; exact hn, (c2.here.tmps (zip_rpL (.cons (.ref hp) (r.mono (Same.refl S) adp_more)))).noslots, ?_⟩
      cases e3 : F (.ref μ1.length :: ds) (μ1 ++ [.ins i (ca i) []]) with
      | fail => rw [e3] at k; exact k.elim
      | exc x μ3 => rw [e3] at k; exact k.elim
      | val z μ3 =>
        rw [e3] at k
        rintro u H3 ⟨S3, ad3, c3⟩
        cases z <;> first | exact k.elim | skip
        have rz := c3.hd
        cases rz
        exact ⟨rfl, k _ H3 ⟨S3, ad3, (c2.keep c3.pop).push (.ref (c3.adp _ _ hp))⟩⟩
    · exact k.elim⟩
end
end Dn

/-! Dn16: the rules of instances; what is never reached; try, raise, defs that may raise. -/
namespace Dn
open PySem PySem.Spec PyProof.Rows L2
theorem all0 {P : Nat → Prop} : ∀ i ∈ ([] : List Nat), P i := fun i h => by simp at h
theorem allC {P : Nat → Prop} {a : Nat} {r : List Nat} (h : P a) (k : ∀ i ∈ r, P i) : ∀ i ∈ a :: r, P i := fun i m => by
  rcases List.mem_cons.mp m with m | m
  · rw [m]; exact h
  · exact k i m
section
variable {X : Cx} {W : WX} {ca : Nat → Addr} {e o value : Expr} {es : List Expr} {is : List Nat} {f m x : Str} {fe fo fv : EF} {fa : AF} {p pos pos' apos : Pos} {i n k : Nat} {F : List D → Mu → Res D} {g : Addr} {fd : FuncData} {ps : List Str} {pl : Sem Bool}
theorem de_fld (is : List Nat) (hC : ∀ i ∈ is, Cls X.K (ca i) ∧ NoAttr X.K (ca i) f) (he : DE X W e fe) (hb : attributeBase e f X.env (eval e X.env) = eval e X.env := by rfl) : DE X W (.Attribute e f pos) (eFld ca is f fe) :=
  let ⟨_, p1, q1⟩ := he; ⟨_, pe_fld p1 hb, simE_fld hC q1⟩
theorem ds_fld (is : List Nat) (hC : ∀ i ∈ is, Cls X.K (ca i) ∧ NoAttr X.K (ca i) f) (ho : DE X W0 o fo) (hv : DE X W value fv) (hs : swapsWith value (some (.Attribute o f pos')) pos.line X.env = pure false := by rfl) : DS X W (.Assign [.Attribute o f pos'] value pos) (sFldS ca is f fo fv) :=
  let ⟨_, p1, q1⟩ := ho; let ⟨_, p2, q2⟩ := hv; ⟨_, ps_fld p1 p2 hs, simS_fld hC q1 q2⟩
theorem de_meth (i : Nat) (c : Cls X.K (ca i)) (hm : Meth X.K (ca i) m g) (G : FnOk X.prog X.w X.K X.mg X.base CX0 k g fd ps (spN X.K n F)) (hr : Room k X.A) (hb : Binds X.K fd ps []) (ho : DE X W o fo) (ha : DA X W (e :: es) fa)
    (hst : starEach (e :: es) X.env = (false, eval e X.env) :: starEach es X.env := by rfl) (hpl : (backTo pos (starEach es X.env)).any (·.1) = false := by rfl)
    (ht : eval (.Call (.Attribute o m apos) (e :: es) [] pos) X.env = (do
      let ov ← eval o X.env
      standAt apos.atName
      let (f, first) ← holding [ov] (getMethod ov m pl)
      callWith pos f first (backTo pos (starEach (e :: es) X.env)) (backToKw pos (keywordEach [] X.env))) := by rfl) : DE X W (.Call (.Attribute o m apos) (e :: es) [] pos) (eMeth ca i n m F fo fa) :=
  let ⟨_, p1, q1⟩ := ho; let ⟨_, p2, q2⟩ := ha; ⟨_, pe_meth p1 c hm G hr hb .nil pass0 p2 hst hpl ht, simE_meth q1 q2⟩
theorem de_meth0 (i : Nat) (c : Cls X.K (ca i)) (hm : Meth X.K (ca i) m g) (G : FnOk X.prog X.w X.K X.mg X.base CX0 k g fd ps (spN X.K n F)) (hr : Room k X.A) (hb : Binds X.K fd ps []) (ho : DE X W o fo)
    (ht : eval (.Call (.Attribute o m apos) [] [] pos) X.env = (do
      let ov ← eval o X.env
      standAt apos.atName
      let (f, first) ← holding [ov] (getMethod ov m pl)
      callWith pos f first (backTo pos (starEach [] X.env)) (backToKw pos (keywordEach [] X.env))) := by rfl) : DE X W (.Call (.Attribute o m apos) [] [] pos) (eMeth ca i n m F fo aNil) :=
  let ⟨_, p1, q1⟩ := ho; ⟨_, pe_meth0 p1 c hm G hr hb .nil pass0 ht, simE_meth q1 simA_nil⟩
theorem de_make (i : Nat) (M : Mk X.K (ca i) g) (G : FnOk X.prog X.w X.K X.mg X.base CX0 k g fd ps (spN X.K n F)) (hr : Room (k + 1) X.A) (hg : Gl X x) (hm : X.mg x = some (.ref (ca i))) (hb : Binds X.K fd ps []) (ha : DA X W (e :: es) fa)
    (hdb : (x == ("__debug__" : Str)) = false := by decide) (he : starEach (e :: es) X.env = (false, eval e X.env) :: starEach es X.env := by rfl) (hpl : (backTo pos (starEach es X.env)).any (·.1) = false := by rfl) : DE X W (.Call (.Name x p) (e :: es) [] pos) (eMake ca i n F fa) :=
  let ⟨_, p2, q2⟩ := ha; ⟨_, pe_make M G hr hg hm hb .nil pass0 p2 hdb he hpl, simE_make q2⟩
theorem de_make0 (i : Nat) (M : Mk X.K (ca i) g) (G : FnOk X.prog X.w X.K X.mg X.base CX0 k g fd ps (spN X.K n F)) (hr : Room (k + 1) X.A) (hg : Gl X x) (hm : X.mg x = some (.ref (ca i))) (hb : Binds X.K fd ps [])
    (hdb : (x == ("__debug__" : Str)) = false := by decide) : DE X W (.Call (.Name x p) [] [] pos) (eMake ca i n F aNil) :=
  ⟨_, pe_make0 M G hr hg hm hb .nil pass0 hdb, simE_make simA_nil⟩
/-- a statement that is never reached -/
theorem ds_never {st : Stmt} : DS X W st sNever := ⟨fun _ _ _ => False, ⟨fun _ _ _ _ _ _ h => h.elim⟩, ⟨fun _ k => k.elim⟩⟩
/-- one reading or another -/
@[simp] def orE (f g : EF) : EF := fun ρ μ => match f ρ μ with
  | .fail => g ρ μ
  | r => r
theorem DE.or {f1 f2 : EF} (h1 : DE X W e f1) (h2 : DE X W e f2) : DE X W e (orE f1 f2) := by
  obtain ⟨t1, p1, q1⟩ := h1
  obtain ⟨t2, p2, q2⟩ := h2
  refine ⟨fun σ H Q => t1 σ H Q ∨ t2 σ H Q, ⟨fun pins s σ H Q I h => ?_⟩, ⟨fun {H0 S0 ad0 tmp ρ μ σ H Q} R k => ?_⟩⟩
  · rcases h with h | h
    · exact p1.run pins s σ H Q I h
    · exact p2.run pins s σ H Q I h
  · unfold orE at k
    cases e1 : f1 ρ μ with
    | fail => rw [e1] at k; exact .inr (q2.run R k)
    | exc x μ1 => rw [e1] at k; exact .inl (q1.run R (by rw [e1]; exact k))
    | val d μ1 => rw [e1] at k; exact .inl (q1.run R (by rw [e1]; exact k))
end
/-! exceptions -/
def canS (K : PySem.W.Frag) (W : WX) (f : SF) : TS := fun E σ H => ∃ (H0 S0 : Hp) (ad0 : Ad) (tmp : List (V × D)) (ρ : Ro) (μ : Mu), Rel K H0 S0 ad0 tmp ρ μ σ H ∧ PostS K W H0 S0 ad0 tmp E (f ρ μ)
theorem DSs.can {X : Cx} {W : WX} {sts : List Stmt} {f : SF} (h : DSs X W sts f) : PSs X sts (canS X.K W f) := by
  obtain ⟨t, p, q⟩ := h
  exact ⟨fun pins s σ H E I ⟨_, _, _, _, _, _, R, k⟩ => p.run pins s σ H E I (q.run R k)⟩
@[simp] def sTryS (ca : Nat → Addr) (tbl : Nat → Option Bool) (b s : SF) : SF := fun ρ μ => match b ρ μ with
  | .exc x ρ1 μ1 => if x.cls = .ref (ca x.ix) then (match tbl x.ix with
    | some true => (match s ρ1 μ1 with
      | .exc _ _ _ => .fail
      | o => o)
    | some false => .exc x ρ1 μ1
    | none => .fail) else .fail
  | o => o
section
variable {X : Cx} {W : WX} {ca : Nat → Addr} {x : Str} {c : Nat} {body suite : List Stmt} {b₀ : Stmt} {np pos pos' : Pos} {fb fs : SF} {tbl : Nat → Option Bool}
theorem ds_try (hs : X.stack = X.env :: X.outer) (hf : X.env.frame = some X.env.locals) (hc : Names X x (.ref (ca c))) (tk : Takes X W) (ht : ∀ j b, tbl j = some b → PySem.W.exmOne X.K (.ref (ca j)) (.ref (ca c)) = some b)
    (hb : ∀ (W' : WX) (pn : List (Addr × Obj)) (xe : Value → Shared → Prop), Takes (X.tr pn xe) W' → PassesOwn (model X.prog X.w) X.A X.env xe → DSs (X.tr pn xe) W' body fb)
    (hsu : ∀ (a : Addr) (oe : Obj) (cls : Value) (d : Option Addr) (pn : List (Addr × Obj)), Zc cls d oe → (∃ vs, oe.data = .fields vs) → DSs (X.suite a ((a, oe) :: pn)) W0 (b₀ :: suite) fs) :
    DS X W (.Try body [.ExceptHandler (some (.Name x np)) none (b₀ :: suite) pos'] [] [] pos) (sTryS ca tbl fb fs) := by
  refine ⟨_, ps_try_only (tb := fun W' => canS X.K W' fb) (ts := fun _ _ _ => canS X.K W0 fs) (Wout := W) hs hf hc tk (fun W' pn xe tk' hp => (hb W' pn xe tk' hp).can) (fun a oe cls d pn hz hv => (hsu a oe cls d pn hz hv).can), ⟨fun {H0 S0 ad0 tmp ρ μ σ H E} R k => ?_⟩⟩
  refine ⟨H0, S0, ad0, tmp, ρ, μ, R, ?_⟩
  unfold sTryS at k
  cases e1 : fb ρ μ with
  | nx ρ1 μ1 => rw [e1] at k; exact k
  | ret d μ1 => rw [e1] at k; exact k
  | bk ρ1 μ1 => rw [e1] at k; exact k
  | ct ρ1 μ1 => rw [e1] at k; exact k
  | fail => rw [e1] at k; exact k
  | exc z ρ1 μ1 =>
    rw [e1] at k
    simp only at k
    intro cls dd σ1 H1 RX
    split at k
    · rename_i hcl
      split at k
      · rename_i hb1
        refine ⟨true, by rw [RX.1, hcl]; exact ht _ _ hb1, fun _ a _ => ?_, fun z => Bool.noConfusion z⟩
        obtain ⟨_, S, ad, cc, _⟩ := RX
        refine ⟨H0, S0, ad0, tmp, ρ1, μ1, ⟨S, ad, cc⟩, ?_⟩
        cases e2 : fs ρ1 μ1 with
        | exc _ _ _ => rw [e2] at k; exact k.elim
        | nx ρ2 μ2 => rw [e2] at k; exact k
        | ret d μ2 => rw [e2] at k; exact k
        | bk ρ2 μ2 => rw [e2] at k; exact k
        | ct ρ2 μ2 => rw [e2] at k; exact k
        | fail => rw [e2] at k; exact k
      · rename_i hb1
        exact ⟨false, by rw [RX.1, hcl]; exact ht _ _ hb1, fun z => Bool.noConfusion z, fun _ => k _ _ _ _ RX⟩
      · exact k.elim
    · exact k.elim
theorem ds_raise {e : Expr} (i : Nat) (hc : X.calm = true) (tk : Takes X W) (he : PMk X e (fun _ H Q => Q (.ref (ca i)) none H)) : DS X W (.Raise (some e) none pos) (sRaise ca i) :=
  ⟨_, ps_raise hc tk he, ⟨fun {H0 S0 ad0 tmp ρ μ σ H E} R k => by
    obtain ⟨S, ad, c⟩ := R
    exact k _ _ _ _ ⟨rfl, S, ad, c, .inl ⟨rfl, rfl⟩⟩⟩⟩
end
/-! defs that may raise -/
section
variable {P : Program} {w : World} {K : PySem.W.Frag} {mg : Str → Option Value} {base : Heap}
abbrev WofE (E : XK) : WX := fun cls d _ H => E cls d H
theorem fnX {x qual : Str} {st : Stmt} {f : Addr} {fd : FuncData} {N ps : List Str} {k : Nat} {b : SF} (F : Fun K x qual st f fd) (S : FnScope N ps (defScope st))
    (hb : ∀ (cdv : Value) (A : Around) (outer : List Env) (s : Shared) (H : Hp) (E : XK), Room k (A.deeper (envOfC qual (defScope st) s.heap.objs.size f cdv)) → DSs (cxOf (L2.CX P w) P w K mg base N qual (defScope st) f cdv A outer s H E) (WofE E) (defBody st) b) :
    FnOk P w K mg base (L2.CX P w) (k + 1) f fd ps (spX K ps.length (runF N.length b)) := by
  refine F.okX S (fun vs H Q E h => ?_) (fun cdv A outer s H vs Q E hr h => ?_)
  · obtain ⟨_, _, _, _, h, _⟩ := h
    exact h
  · obtain ⟨S1, ad, μ, ds, hl, hd, c, k⟩ := h
    obtain ⟨t, p, q⟩ := hb cdv A outer s H E hr
    refine ⟨t, p, q.run ⟨S1, ad, c.start (N := N) (by rw [hl, hd]) (by
      have := congrArg List.length S.pre
      rw [List.length_take] at this
      omega)⟩ ?_⟩
    unfold runF at k
    cases e : b (ds.map some ++ List.replicate (N.length - ds.length) none) μ with
    | ret d μ' => rw [e] at k; exact fun v ρ σ H R => k v H R.noslots
    | nx ρ μ' => rw [e] at k; exact fun σ H R => k .non H (R.noslots.flat flat_non)
    | exc x ρ μ' =>
      rw [e] at k
      rintro cls dd σ H' ⟨e1, S2, ad2, c2, q2⟩
      exact k cls dd H' ⟨e1, S2, ad2, c2.noslots, q2⟩
    | bk ρ μ' => rw [e] at k; exact k.elim
    | ct ρ μ' => rw [e] at k; exact k.elim
    | fail => rw [e] at k; exact k.elim
end
/-! calls that may raise -/
def tMethE (C : Addr) (m : Str) (sp : Sp) (E : L2.St → XK) (ta : TE) (t : TA) : TE := fun σ H Q => ta σ H fun x H1 => ∃ a dx fs, x = .ref a ∧ H1 a = some (.ins C dx fs) ∧ fs.lookup m = none ∧ t σ H1 fun vs H2 => sp (x :: vs) H2 Q (E σ)
section
variable {X : Cx} {CX : CXT} {k : Nat} {f C : Addr} {fd : FuncData} {ps : List Str} {sp : Sp} {E : L2.St → XK} {m : Str} {pos apos : Pos} {e o : Expr} {es : List Expr} {ta : TE} {t : TA} {pl : Sem Bool}
theorem pe_methE (he : PE X o ta) (c : Cls X.K C) (hm : Meth X.K C m f)
    (F : FnOk X.prog X.w X.K X.mg X.base CX k f fd ps sp) (hr : Room k X.A) (hb : Binds X.K fd ps []) (hx : ∀ σ, PassesAt CX X σ (E σ)) (ha : PA X (e :: es) t)
    (hst : starEach (e :: es) X.env = (false, eval e X.env) :: starEach es X.env := by rfl) (hpl : (backTo pos (starEach es X.env)).any (·.1) = false := by rfl)
    (ht : eval (.Call (.Attribute o m apos) (e :: es) [] pos) X.env = (do
      let ov ← eval o X.env
      standAt apos.atName
      let (f, first) ← holding [ov] (getMethod ov m pl)
      callWith pos f first (backTo pos (starEach (e :: es) X.env)) (backToKw pos (keywordEach [] X.env))) := by rfl) :
    PE X (.Call (.Attribute o m apos) (e :: es) [] pos) (tMethE C m sp E ta t) := by
  refine ⟨fun pins s σ H Q I h => ?_⟩
  refine PySem.W.methodCall_KW (pl := pl) (thn (he.run pins s σ H _ I h) fun u s1 ⟨x, H1, I1, rx, a, dx, fs, ex, ea, l, q⟩ => ?_) ht
  subst ex
  obtain rfl : u = Value.ref a := rx
  refine getmeth_ok I1 ea c hm l ?_
  refine PySem.W.callWith_K (first := [.ref a]) (h₀ := X.base) I.ok.mod.kin hm.kp (thn (ha.run pos pins s1 σ H1 _ I1 q) fun us s2 ⟨vs, H2, I2, r, q2⟩ => ⟨I2.kIn, ?_⟩) hst hpl
  exact run_fnS (us := .ref a :: us) (vs := .ref a :: vs) F hr hb (hx σ) I2 (.cons rfl r) q2
theorem pe_methE0 (he : PE X o ta) (c : Cls X.K C) (hm : Meth X.K C m f)
    (F : FnOk X.prog X.w X.K X.mg X.base CX k f fd ps sp) (hr : Room k X.A) (hb : Binds X.K fd ps []) (hx : ∀ σ, PassesAt CX X σ (E σ))
    (ht : eval (.Call (.Attribute o m apos) [] [] pos) X.env = (do
      let ov ← eval o X.env
      standAt apos.atName
      let (f, first) ← holding [ov] (getMethod ov m pl)
      callWith pos f first (backTo pos (starEach [] X.env)) (backToKw pos (keywordEach [] X.env))) := by rfl) :
    PE X (.Call (.Attribute o m apos) [] [] pos) (tMethE C m sp E ta tNil) := by
  refine ⟨fun pins s σ H Q I h => ?_⟩
  refine PySem.W.methodCall_KW (pl := pl) (thn (he.run pins s σ H _ I h) fun u s1 ⟨x, H1, I1, rx, a, dx, fs, ex, ea, l, q⟩ => ?_) ht
  subst ex
  obtain rfl : u = Value.ref a := rx
  refine getmeth_ok I1 ea c hm l ?_
  exact PySem.W.callWith_K0 (first := [.ref a]) I1.kIn hm.kp (run_fnS (us := [.ref a]) (vs := [.ref a]) F hr hb (hx σ) I1 (.cons rfl .nil) q)
end
section
variable {K : PySem.W.Frag} {W : WX} {ca : Nat → Addr}
theorem simE_methX {i n : Nat} {m : Str} {F : List D → Mu → Res D} {to : TE} {ta : TA} {fo : EF} {fa : AF} (ho : SimE K W to fo) (ha : SimA K W ta fa) : SimE K W (tMethE (ca i) m (spX K n F) (WE W) to ta) (eMethX ca i n m F fo fa) := ⟨fun {H0 S0 ad0 tmp ρ μ σ H Q} R k => by
  refine ho.run R ?_
  unfold eMethX at k
  cases e1 : fo ρ μ with
  | fail => rw [e1] at k; exact k.elim
  | exc x μ1 => rw [e1] at k; exact k
  | val d μ1 =>
    rw [e1] at k
    simp only [bind_val] at k
    intro v H1 R1
    obtain ⟨S, ad, c⟩ := R1
    split at k
    · rename_i p hp
      obtain ⟨a, dx, ws, rfl, _, had, hi, g1, g2⟩ := insOf_at c c.hd hp
      have hi : p.2.1 = i := by simpa using hi
      rw [hi] at g1
      split at k
      · rename_i hl
        refine ⟨a, dx, ws, rfl, g1, lkD_none g2 hl, ha.run ⟨S, ad, c⟩ ?_⟩
        cases e2 : fa ρ μ1 with
        | fail => rw [e2] at k; exact k.elim
        | exc x μ2 => rw [e2] at k; exact fun cls dd H r => k cls dd H r.pop
        | val ds μ2 =>
          rw [e2] at k
          simp only [bind_val] at k
          intro vs H2 hvl R2
          split at k
          · rename_i hn
            obtain ⟨S2, ad2, c2, r2⟩ := R2.args hvl
            refine ⟨S2, ad2, μ2, d :: ds, by rw [List.length_cons, hvl]; exact hn, by rw [List.length_cons]; exact hn, (c2.here.tmps (zip_rpL (.cons c2.hd r2))).noslots, ?_⟩
            cases e3 : F (d :: ds) μ2 with
            | fail => rw [e3] at k; exact k.elim
            | exc x μ3 =>
              rw [e3] at k
              rintro cls dd H3 ⟨e4, S3, ad3, c3, q3⟩
              exact k cls dd H3 ⟨e4, S3, ad3, (c2.pop.keep c3).tmps fun q mq => (c2.pop.keep c3).tm q (by simpa using mq), q3⟩
            | val z μ3 =>
              rw [e3] at k
              rintro u H3 ⟨S3, ad3, c3⟩
              exact k u H3 ⟨S3, ad3, c2.pop.keep c3⟩
          · exact k.elim
      · exact k.elim
    · exact k.elim⟩
theorem simE_callX {n : Nat} {F : List D → Mu → Res D} {ta : TA} {fa : AF} (ha : SimA K W ta fa) : SimE K W (tCallS (spX K n F) (WE W) ta) (eCallX n F fa) := ⟨fun {H0 S0 ad0 tmp ρ μ σ H Q} R k => by
  refine ha.run R ?_
  unfold eCallX at k
  cases e1 : fa ρ μ with
  | fail => rw [e1] at k; exact k.elim
  | exc x μ1 => rw [e1] at k; exact k
  | val ds μ1 =>
    rw [e1] at k
    simp only [bind_val] at k
    intro vs H1 hl R1
    split at k
    · rename_i hn
      obtain ⟨S, ad, c, r⟩ := R1.args hl
      refine ⟨S, ad, μ1, ds, by rw [hl]; exact hn, hn, (c.here.tmps (zip_rpL r)).noslots, ?_⟩
      cases e2 : F ds μ1 with
      | fail => rw [e2] at k; exact k.elim
      | exc x μ2 =>
        rw [e2] at k
        rintro cls dd H3 ⟨e4, S3, ad3, c3, q3⟩
        exact k cls dd H3 ⟨e4, S3, ad3, (c.keep c3).tmps fun q mq => (c.keep c3).tm q (by simpa using mq), q3⟩
      | val d μ2 =>
        rw [e2] at k
        rintro v H2 ⟨S2, ad2, c2⟩
        exact k v H2 ⟨S2, ad2, c.keep c2⟩
    · exact k.elim⟩
end
section
variable {X : Cx} {W : WX} {ca : Nat → Addr} {e o : Expr} {es : List Expr} {m x : Str} {fo : EF} {fa : AF} {p pos apos : Pos} {i n k : Nat} {F : List D → Mu → Res D} {g : Addr} {fd : FuncData} {ps : List Str} {pl : Sem Bool}
theorem de_methX (i : Nat) (c : Cls X.K (ca i)) (hm : Meth X.K (ca i) m g) (tk : Takes X W) (G : FnOk X.prog X.w X.K X.mg X.base (L2.CX X.prog X.w) k g fd ps (spX X.K n F)) (hr : Room k X.A) (hb : Binds X.K fd ps []) (ho : DE X W o fo) (ha : DA X W (e :: es) fa)
    (hst : starEach (e :: es) X.env = (false, eval e X.env) :: starEach es X.env := by rfl) (hpl : (backTo pos (starEach es X.env)).any (·.1) = false := by rfl)
    (ht : eval (.Call (.Attribute o m apos) (e :: es) [] pos) X.env = (do
      let ov ← eval o X.env
      standAt apos.atName
      let (f, first) ← holding [ov] (getMethod ov m pl)
      callWith pos f first (backTo pos (starEach (e :: es) X.env)) (backToKw pos (keywordEach [] X.env))) := by rfl) : DE X W (.Call (.Attribute o m apos) (e :: es) [] pos) (eMethX ca i n m F fo fa) :=
  let ⟨_, p1, q1⟩ := ho; let ⟨_, p2, q2⟩ := ha; ⟨_, pe_methE p1 c hm G hr hb (fun σ => passAt tk σ) p2 hst hpl ht, simE_methX q1 q2⟩
theorem de_methX0 (i : Nat) (c : Cls X.K (ca i)) (hm : Meth X.K (ca i) m g) (tk : Takes X W) (G : FnOk X.prog X.w X.K X.mg X.base (L2.CX X.prog X.w) k g fd ps (spX X.K n F)) (hr : Room k X.A) (hb : Binds X.K fd ps []) (ho : DE X W o fo)
    (ht : eval (.Call (.Attribute o m apos) [] [] pos) X.env = (do
      let ov ← eval o X.env
      standAt apos.atName
      let (f, first) ← holding [ov] (getMethod ov m pl)
      callWith pos f first (backTo pos (starEach [] X.env)) (backToKw pos (keywordEach [] X.env))) := by rfl) : DE X W (.Call (.Attribute o m apos) [] [] pos) (eMethX ca i n m F fo aNil) :=
  let ⟨_, p1, q1⟩ := ho; ⟨_, pe_methE0 p1 c hm G hr hb (fun σ => passAt tk σ) ht, simE_methX q1 simA_nil⟩
theorem de_callX (tk : Takes X W) (G : FnOk X.prog X.w X.K X.mg X.base (L2.CX X.prog X.w) k g fd ps (spX X.K n F)) (hr : Room k X.A) (hg : Gl X x) (hm : X.mg x = some (.ref g)) (hk : PySem.W.keepIn X.K (.ref g) = true) (hb : Binds X.K fd ps []) (ha : DA X W (e :: es) fa)
    (hdb : (x == ("__debug__" : Str)) = false := by decide) (he : starEach (e :: es) X.env = (false, eval e X.env) :: starEach es X.env := by rfl) (hpl : (backTo pos (starEach es X.env)).any (·.1) = false := by rfl) : DE X W (.Call (.Name x p) (e :: es) [] pos) (eCallX n F fa) :=
  let ⟨_, p1, q1⟩ := ha; ⟨_, pe_callS G hr hg hm hk hb (fun σ => passAt tk σ) p1 hdb he hpl, simE_callX q1⟩
end
end Dn

/-! Dn17: walks of cells (each turn looks at the cell as it stands), list(range(..)), divmod. -/
namespace Dn
open PySem PySem.Spec PyProof.Rows L2
noncomputable section
def forC (n : Nat) (g : GT) (b : SF) : Nat → Nat → Ro → Mu → Out
  | 0, _, _, _ => .fail
  | N + 1, i, ρ, μ => match μ[n]? with
    | some (.lst xs) => (match xs[i]? with
      | none => .nx ρ μ
      | some d => match g d ρ μ with
        | none => .fail
        | some p => match b p.1 p.2 with
          | .nx ρ2 μ2 => forC n g b N (i + 1) ρ2 μ2
          | .ct ρ2 μ2 => forC n g b N (i + 1) ρ2 μ2
          | .bk ρ2 μ2 => .nx ρ2 μ2
          | .ret d μ2 => .ret d μ2
          | .exc x ρ2 μ2 => .exc x ρ2 μ2
          | .fail => .fail)
    | _ => .fail
def sForC (N : Nat) (f : EF) (g : GT) (b : SF) : SF := fun ρ μ => match f ρ μ with
  | .val (.ref n) μ1 => forC n g b N 0 ρ μ1
  | .exc x μ1 => .exc x ρ μ1
  | _ => .fail
def compC (n : Nat) (g : GT) (tt : TF) (te : EF) (ρ : Ro) : Nat → Nat → Mu → List D → Res (List D)
  | 0, _, _, _ => .fail
  | N + 1, i, μ, acc => match μ[n]? with
    | some (.lst xs) => (match xs[i]? with
      | none => .val acc μ
      | some d => match g d ρ μ with
        | none => .fail
        | some p => match tt p.1 p.2 with
          | .val true μ3 => (match te p.1 μ3 with
            | .val y μ4 => if acc.length < 50000 then compC n g tt te ρ N (i + 1) μ4 (acc ++ [y]) else .fail
            | _ => .fail)
          | .val false μ3 => compC n g tt te ρ N (i + 1) μ3 acc
          | _ => .fail)
    | _ => .fail
def eLcC (N : Nat) (fin : List D → Mu → Res D) (f : EF) (g : GT) (tt : TF) (te : EF) (vs : List Nat) : EF := fun ρ μ => match f ρ μ with
  | .val (.ref n) μ1 => (compC n g tt te (wipeR ρ vs) N 0 μ1 []).bind fin
  | .exc x μ1 => .exc x μ1
  | _ => .fail
abbrev finL : List D → Mu → Res D := fun xs μ => .val (.lst xs) μ
abbrev finN : List D → Mu → Res D := fun xs μ => .val (.ref μ.length) (μ ++ [.lst xs])
section
variable {K : PySem.W.Frag} {W : WX}
theorem simS_forC {te : TE} {t : TG} {u : TS} {f : EF} {g : GT} {b : SF} (N : Nat) (he : SimE K W te f) (hg : SimG K t g) (hb : SimS K W u b) : SimS K W (tFor (iList K te) t u) (sForC N f g b) := ⟨fun {H0 S0 ad0 tmp ρ μ σ H E} R k => by
  refine he.run R ?_
  unfold sForC at k
  cases e1 : f ρ μ with
  | fail => rw [e1] at k; exact k.elim
  | exc x μ1 => rw [e1] at k; exact fun cls dd H r => k cls dd σ H r
  | val d μ1 =>
    rw [e1] at k
    cases d <;> first | exact k.elim | skip
    rename_i n
    intro v H1 R1
    obtain ⟨a, rfl, ha⟩ : ∃ a, v = .ref a ∧ True := by
      obtain ⟨S, ad, c⟩ := R1
      have r := c.hd
      cases r
      exact ⟨_, rfl, trivial⟩
    have k : PostS K W H0 S0 ad0 tmp E (forC n g b N 0 ρ μ1) := k
    refine ⟨a, rfl, ?_, fun i m σ H => ∃ ρ μ, Rel K H0 S0 ad0 ([(.ref a, .ref n)] ++ tmp) ρ μ σ H ∧ PostS K W H0 S0 ad0 tmp E (forC n g b m i ρ μ), ⟨N, ρ, μ1, R1, k⟩, ?_⟩
    · cases N with
      | zero => exact k.elim
      | succ N =>
        unfold forC at k
        split at k
        · rename_i xs hm
          obtain ⟨S, ad, c⟩ := R1
          have r := c.hd
          cases r with
          | ref ha =>
            obtain ⟨vs, h1, h2⟩ := c.at_ n a _ ha hm
            exact ⟨vs, .of h1⟩
        · exact k.elim
    rintro i m σ H ⟨ρ, μ, R, k⟩
    cases m with
    | zero => exact k.elim
    | succ m =>
      unfold forC at k
      split at k
      · rename_i xs hm
        obtain ⟨S, ad, c⟩ := id R
        have r := c.hd
        cases r with
        | ref ha =>
          obtain ⟨vs, h1, h2⟩ := c.at_ n a _ ha hm
          split at k
          · rename_i hx
            exact .inl ⟨⟨vs, .of h1, by rw [h2.length]; exact List.getElem?_eq_none_iff.mp hx⟩, k σ H (R.sub fun p m => List.mem_append_right _ m)⟩
          · rename_i d hx
            obtain ⟨y, g1, g2⟩ := h2.get hx
            refine .inr ⟨⟨vs, y, .of h1, g1⟩, fun σ' H' => ∃ ρ μ, Rel K H0 S0 ad0 ([(.ref a, .ref n)] ++ tmp) ρ μ σ' H' ∧ PostS K W H0 S0 ad0 tmp E (forC n g b m (i + 1) ρ μ), fun σ' H' q => ⟨m, Nat.lt_succ_self m, q⟩, fun x H' yl => ?_⟩
            obtain ⟨rfl, yl⟩ := yl
            have e := yl vs (.of h1)
            rw [g1] at e
            cases e
            have R2 : Rel K H0 S0 ad0 ((y, d) :: ([(.ref a, .ref n)] ++ tmp)) ρ μ σ H' := ⟨S, ad, c.push g2⟩
            cases e2 : g d ρ μ with
            | none => rw [e2] at k; exact k.elim
            | some p =>
              rw [e2] at k
              simp only at k
              refine hg.run R2 e2 fun σ2 H2 R2 => hb.run (E := { E with nx := fun σ' H' => ∃ ρ μ, Rel K H0 S0 ad0 ([(.ref a, .ref n)] ++ tmp) ρ μ σ' H' ∧ PostS K W H0 S0 ad0 tmp E (forC n g b m (i + 1) ρ μ), ct := fun σ' H' => ∃ ρ μ, Rel K H0 S0 ad0 ([(.ref a, .ref n)] ++ tmp) ρ μ σ' H' ∧ PostS K W H0 S0 ad0 tmp E (forC n g b m (i + 1) ρ μ), bk := E.nx }) R2 ?_
              cases e3 : b p.1 p.2 with
              | nx ρ2 μ2 => rw [e3] at k; exact fun σ' H' R' => ⟨ρ2, μ2, R', k⟩
              | ct ρ2 μ2 => rw [e3] at k; exact fun σ' H' R' => ⟨ρ2, μ2, R', k⟩
              | bk ρ2 μ2 => rw [e3] at k; exact PostS.tl (E := E) (o := .nx ρ2 μ2) k
              | ret d μ2 => rw [e3] at k; exact PostS.tl (E := E) (o := .ret d μ2) k
              | exc x ρ2 μ2 => rw [e3] at k; exact PostS.tl (E := E) (o := .exc x ρ2 μ2) k
              | fail => rw [e3] at k; exact k
      · exact k.elim⟩
theorem simE_lcC {fin : List D → Mu → Res D} (N : Nat) (hf : FinOk K W fin) {tl : TE} {fl : EF} {t : TG} {g : GT} {tt : TT} {ft : TF} {te : TE} {fe : EF} {vs : List Nat} (hi : SimE K W tl fl) (hg : SimW K vs t g) (ht : SimT K W0 tt ft) (he : SimE K W0 te fe) :
    SimE K W (tLc (iList K tl) t tt te vs) (eLcC N fin fl g ft fe vs) := ⟨fun {H0 S0 ad0 tmp ρ μ σ H Q} R k => by
  refine hi.run R ?_
  unfold eLcC at k
  cases e1 : fl ρ μ with
  | fail => rw [e1] at k; exact k.elim
  | exc x μ1 => rw [e1] at k; exact k
  | val d μ1 =>
    rw [e1] at k
    cases d <;> first | exact k.elim | skip
    rename_i n
    intro v H1 R1
    obtain ⟨S1, ad1, c1⟩ := R1
    have r1 := c1.hd
    cases r1 with
    | ref ha1 =>
    rename_i a
    have k : PostE K W H0 S0 ad0 tmp ρ σ Q ((compC n g ft fe (wipeR ρ vs) N 0 μ1 []).bind fin) := k
    refine ⟨a, rfl, ?_, fun D hD => ?_⟩
    · cases N with
      | zero => exact k.elim
      | succ N =>
        unfold compC at k
        split at k
        · rename_i xs hm
          obtain ⟨vs, h1, h2⟩ := c1.at_ n a _ ha1 hm
          exact ⟨vs, .of h1⟩
        · exact k.elim
    obtain ⟨f1, f2, f3⟩ := c1.fresh hD
    refine ⟨fun i m H => ∃ (S : Hp) (ad : Ad) (μ : Mu) (vsA : List V) (acc : List Dn.D), Core K H0 S0 ad0 S ad ([(.ref a, .ref n)] ++ tmp) ρ μ σ H ∧ H D = some (.lst vsA) ∧ RpL K S ad vsA acc ∧ D ∉ ad ∧ S D = none ∧
        PostE K W H0 S0 ad0 tmp ρ σ Q ((compC n g ft fe (wipeR ρ vs) m i μ acc).bind fin),
      ⟨N, S1, ad1, μ1, [], [], c1.free f2 f1 f3, upd_same, .nil, f2, f1, k⟩, ?_⟩
    rintro i m H ⟨S, ad, μ, vsA, acc, c, hDa, ra, na, ns, k⟩
    cases m with
    | zero => exact k.elim
    | succ m =>
    unfold compC at k
    split at k
    · rename_i xs hm
      have r := c.hd
      cases r with
      | ref ha =>
      obtain ⟨ws, h1, h2⟩ := c.at_ n a _ ha hm
      have here := (c.here).wipe vs
      split at k
      · rename_i hx
        refine .inl ⟨⟨ws, .of h1, by rw [h2.length]; exact List.getElem?_eq_none_iff.mp hx⟩, hf (c.tmps fun q m => c.tm q (List.mem_append_right _ m)) hDa ra na ns f3 k⟩
      · rename_i d hx
        obtain ⟨y, g1, g2⟩ := h2.get hx
        refine .inr ⟨⟨ws, y, .of h1, g1⟩, fun H' => ∃ (S : Hp) (ad : Ad) (μ : Mu) (vsA : List V) (acc : List Dn.D), Core K H0 S0 ad0 S ad ([(.ref a, .ref n)] ++ tmp) ρ μ σ H' ∧ H' D = some (.lst vsA) ∧ RpL K S ad vsA acc ∧ D ∉ ad ∧ S D = none ∧
          PostE K W H0 S0 ad0 tmp ρ σ Q ((compC n g ft fe (wipeR ρ vs) m (i + 1) μ acc).bind fin), fun H' q => ⟨m, Nat.lt_succ_self m, q⟩, fun x H' yl => ?_⟩
        obtain ⟨rfl, yl⟩ := yl
        have e := yl ws (.of h1)
        rw [g1] at e
        cases e
        have R2 : Rel K H' S ad ((y, d) :: ([(.ref a, .ref n)] ++ tmp)) (wipeR ρ vs) μ (wipe σ vs) H' := ⟨S, ad, here.push g2⟩
        -- what stood at D stands behind all that a turn does
        have stays : ∀ {S4 : Hp} {ad4 : Ad} {tmp4 : List (V × Dn.D)} {ρ4 : Ro} {μ4 : Mu} {σ4 : L2.St} {H4 : Hp}, Core K H' S ad S4 ad4 tmp4 ρ4 μ4 σ4 H4 → H4 D = some (.lst vsA) ∧ D ∉ ad4 ∧ S4 D = none := fun {S4 ad4 tmp4 ρ4 μ4 σ4 H4} c4 => by
          have n4 : D ∉ ad4 := fun m => by
            obtain ⟨more, e, q⟩ := c4.a0
            rw [e] at m
            rcases List.mem_append.mp m with m | m
            · exact na m
            · rw [q D m] at hDa; cases hDa
          refine ⟨c4.kp D _ hDa n4, n4, ?_⟩
          cases e : S4 D with
          | none => rfl
          | some o =>
            rcases c4.sn D o e with z | z | ⟨xs, z⟩
            · rw [ns] at z; cases z
            · rw [hDa] at z; cases z
            · rw [hDa] at z; cases z
        cases e2 : g d (wipeR ρ vs) μ with
        | none => rw [e2] at k; exact k.elim
        | some p =>
          rw [e2] at k
          simp only at k
          refine hg.run R2 e2 fun σ2 H2 R2 w2 => ⟨w2.trans (wipe_wipe vs), ht.run R2 ?_⟩
          cases e3 : ft p.1 p.2 with
          | fail => rw [e3] at k; exact k.elim
          | exc x μ1 => rw [e3] at k; exact k.elim
          | val b μ3 =>
            rw [e3] at k
            intro H3 R3
            cases b with
            | false =>
              refine iteF ?_
              obtain ⟨S3, ad3, c3⟩ := R3
              obtain ⟨d1, d2, d3⟩ := stays c3
              exact ⟨S3, ad3, μ3, vsA, acc, (c.keep c3).tmps fun q m => (c.keep c3).tm q (List.mem_append_right _ m), d1, ra.mono c3.s0 c3.adp, d2, d3, k⟩
            | true =>
              simp only at k
              refine iteT (he.run R3 ?_)
              cases e4 : fe p.1 μ3 with
              | fail => rw [e4] at k; exact k.elim
              | exc x μ1 => rw [e4] at k; exact k.elim
              | val y μ4 =>
                rw [e4] at k
                simp only at k
                intro v H4 R4
                obtain ⟨S4, ad4, c4⟩ := R4
                obtain ⟨d1, d2, d3⟩ := stays c4
                have ra4 := ra.mono c4.s0 c4.adp
                split at k
                · rename_i hz
                  exact ⟨vsA, d1, sz_lt (by rw [ra.length]; omega), S4, ad4, μ4, vsA ++ [v], acc ++ [y], ((c.keep c4).tmps fun q m => (c.keep c4).tm q (List.mem_append_right _ m)).free d2 d3 f3, upd_same, ra4.append (.cons c4.hd .nil), d2, d3, k⟩
                · exact k.elim
    · exact k.elim⟩
end
section
variable {X : Cx} {W : WX} {elt tg iter : Expr} {ifs : List Expr} {scope : Scope} {own : List (Str × Nat)} {pos spos py : Pos} {fi : EF} {g : GT} {ft : TF} {fe : EF} {fin : List D → Mu → Res D} {body : List Stmt} {s : SF}
theorem ds_forC (N : Nat) (hp : PassesOwn (model X.prog X.w) X.A X.env X.xe) (hc : X.calm = true) (hi : DE X W iter fi) (hg : DG X tg g) (hb : DSs X W body s) (hs : ∀ x, foldedSetIterable iter X.env x = pure x := by intro _; rfl) : DS X W (.For tg iter body [] pos) (sForC N fi g s) :=
  let ⟨_, p0, q0⟩ := hi; let ⟨_, p1, q1⟩ := hg; let ⟨_, p2, q2⟩ := hb; ⟨_, ps_for hp hc (pi_list p0) p1 p2 hs, simS_forC N q0 q1 q2⟩
theorem de_lcC (N : Nat) (hfin : FinOk X.K W fin) (hc : X.calm = true) (hN : X.N.Nodup) (hi : DE X W iter fi) (ok : BlkOk X.N X.env.scope scope own)
    (hg : ∀ (s : Shared) (H : Hp) (C : Addr) (cl : List (Str × Addr)) (fp : List Addr), DW1 (X.blk s H scope (compEnvC scope cl C X.env) fp) (own.map (·.2)) tg g) (ht : ∀ (s : Shared) (H : Hp) (C : Addr) (cl : List (Str × Addr)) (fp : List Addr), DTs (X.blk s H scope (compEnvC scope cl C X.env) fp) W0 ifs ft)
    (he : ∀ (s : Shared) (H : Hp) (C : Addr) (cl : List (Str × Addr)) (fp : List Addr), DE (X.blk s H scope (compEnvC scope cl C X.env) fp) W0 elt fe) (hs : ∀ x, foldedSetIterable iter X.env x = pure x := by intro _; rfl) :
    DE X W (.ListComp elt [⟨tg, iter, ifs, 0⟩] scope pos) (eLcC N fin fi g ft fe (own.map (·.2))) := by
  obtain ⟨_, p1, q1⟩ := hi
  exact ⟨_, pe_lc hc hN (pi_list p1) ok (fun s H C cl fp => (hg s H C cl fp).can) (fun s H C cl fp => (ht s H C cl fp).can) (fun s H C cl fp => (he s H C cl fp).can) hs, simE_lcC N hfin q1 simW_can simT_can simE_can⟩
theorem ds_lcC (N : Nat) (i : Nat) {y : Str} (hfin : FinOk X.K W fin) (hc : X.calm = true) (hN : X.N.Nodup) (hi : DE X W iter fi) (ok : BlkOk X.N X.env.scope scope own)
    (hg : ∀ (s : Shared) (H : Hp) (C : Addr) (cl : List (Str × Addr)) (fp : List Addr), DW1 (X.blk s H scope (compEnvC scope cl C X.env) fp) (own.map (·.2)) tg g) (ht : ∀ (s : Shared) (H : Hp) (C : Addr) (cl : List (Str × Addr)) (fp : List Addr), DTs (X.blk s H scope (compEnvC scope cl C X.env) fp) W0 ifs ft)
    (he : ∀ (s : Shared) (H : Hp) (C : Addr) (cl : List (Str × Addr)) (fp : List Addr), DE (X.blk s H scope (compEnvC scope cl C X.env) fp) W0 elt fe)
    (hy : X.N[i]? = some y := by rfl) (hyl : X.env.scope.names.lookup y = some .local := by rfl)
    (hsw : swapsWith (.ListComp elt [⟨tg, iter, ifs, 0⟩] scope pos) (some (.Name y py)) spos.line X.env = pure true := by exact sw_true rfl rfl rfl (by decide +kernel)) (hs : ∀ x, foldedSetIterable iter X.env x = pure x := by intro _; rfl) :
    DS X W (.Assign [.Name y py] (.ListComp elt [⟨tg, iter, ifs, 0⟩] scope pos) spos) (sAsg i (eLcC N fin fi g ft fe (own.map (·.2)))) := by
  obtain ⟨_, p1, q1⟩ := hi
  exact ⟨_, ps_setLc hc hN hy hyl hsw (pi_list p1) ok (fun s H C cl fp => (hg s H C cl fp).can) (fun s H C cl fp => (ht s H C cl fp).can) (fun s H C cl fp => (he s H C cl fp).can) hs, simS_asg (simE_lcC N hfin q1 simW_can simT_can simE_can) (simG_n i)⟩
end
/-! in use -/
theorem forC_turn (n : Nat) (g : GT) (b : SF) (N i : Nat) (ρ : Ro) (μ : Mu) {xs : List D} {d : D} (hm : μ[n]? = some (.lst xs)) (hd : xs[i]? = some d) : forC n g b (N + 1) i ρ μ = match turn g b d ρ μ with
      | .nx ρ2 μ2 => forC n g b N (i + 1) ρ2 μ2
      | .ct ρ2 μ2 => forC n g b N (i + 1) ρ2 μ2
      | .bk ρ2 μ2 => .nx ρ2 μ2
      | .ret d μ2 => .ret d μ2
      | .exc x ρ2 μ2 => .exc x ρ2 μ2
      | .fail => .fail := by
  rw [forC, hm]
  simp only [hd]
  unfold turn
  cases g d ρ μ with
  | none => rfl
  | some p => rfl
theorem forC_end (n : Nat) (g : GT) (b : SF) (N i : Nat) (ρ : Ro) (μ : Mu) {xs : List D} (hm : μ[n]? = some (.lst xs)) (hd : xs[i]? = none) : forC n g b (N + 1) i ρ μ = .nx ρ μ := by
  rw [forC, hm]
  simp only [hd]
/-- the cell stays as it is through the loop -/
theorem forC_endsN {n : Nat} {g : GT} {b : SF} {B : Ro → Mu → Prop} {R : D → Mu → Prop} {xs : List D} (I : Nat → Ro → Mu → Prop) (hm : ∀ i ρ μ, I i ρ μ → μ[n]? = some (.lst xs))
    (hs : ∀ (i : Nat) (d : D) (ρ : Ro) (μ : Mu), xs[i]? = some d → I i ρ μ → Ends3 (I (i + 1)) B R (turn g b d ρ μ)) :
    ∀ (N i : Nat) {ρ : Ro} {μ : Mu}, xs.length < N + i → i ≤ xs.length → I i ρ μ → LoopEnds (fun ρ μ => I xs.length ρ μ ∨ B ρ μ) R (forC n g b N i ρ μ)
  | 0, i, ρ, μ, hN, hi, _ => absurd hN (by omega)
  | N + 1, i, ρ, μ, hN, hi, h => by
    by_cases hl : i < xs.length
    · have hx : xs[i]? = some xs[i] := List.getElem?_eq_getElem hl
      have k := hs i _ ρ μ hx h
      rw [forC_turn n g b N i ρ μ (hm i ρ μ h) hx]
      cases e : turn g b xs[i] ρ μ with
      | nx ρ2 μ2 => rw [e] at k; exact forC_endsN I hm hs N (i + 1) (by omega) hl k
      | ct ρ2 μ2 => rw [e] at k; exact forC_endsN I hm hs N (i + 1) (by omega) hl k
      | bk ρ2 μ2 => rw [e] at k; exact .inr k
      | ret d2 μ2 => rw [e] at k; exact k
      | exc x ρ2 μ2 => rw [e] at k; exact k.elim
      | fail => rw [e] at k; exact k.elim
    · have e : i = xs.length := by omega
      subst e
      rw [forC_end n g b N _ ρ μ (hm _ ρ μ h) (List.getElem?_eq_none_iff.mpr (Nat.le_refl _))]
      exact .inl h
theorem forC_ends {n : Nat} {g : GT} {b : SF} {B : Ro → Mu → Prop} {R : D → Mu → Prop} {xs : List D} (I : Nat → Ro → Mu → Prop) {ρ : Ro} {μ : Mu} (hl : xs.length < 1000000000) (hm : ∀ i ρ μ, I i ρ μ → μ[n]? = some (.lst xs)) (h0 : I 0 ρ μ)
    (hs : ∀ (i : Nat) (d : D) (ρ : Ro) (μ : Mu), xs[i]? = some d → I i ρ μ → Ends3 (I (i + 1)) B R (turn g b d ρ μ)) : LoopEnds (fun ρ μ => I xs.length ρ μ ∨ B ρ μ) R (forC n g b FUEL 0 ρ μ) :=
  forC_endsN I hm hs FUEL 0 (by have := lt_fuel hl; omega) (Nat.zero_le _) h0
theorem forC_nx {n : Nat} {g : GT} {b : SF} {xs : List D} (I : Nat → Ro → Mu → Prop) {ρ : Ro} {μ : Mu} (hl : xs.length < 1000000000) (hm : ∀ i ρ μ, I i ρ μ → μ[n]? = some (.lst xs)) (h0 : I 0 ρ μ)
    (hs : ∀ (i : Nat) (d : D) (ρ : Ro) (μ : Mu), xs[i]? = some d → I i ρ μ → ∃ ρ' μ', turn g b d ρ μ = .nx ρ' μ' ∧ I (i + 1) ρ' μ') : ∃ ρ' μ', forC n g b FUEL 0 ρ μ = .nx ρ' μ' ∧ I xs.length ρ' μ' := by
  have h := forC_ends (g := g) (b := b) (B := fun _ _ => False) (R := fun _ _ => False) I hl hm h0 fun i d ρ μ hd hi => by
    obtain ⟨ρ', μ', e, k⟩ := hs i d ρ μ hd hi
    rw [e]; exact k
  cases e : forC n g b FUEL 0 ρ μ with
  | nx ρ' μ' => rw [e] at h; exact ⟨ρ', μ', rfl, h.resolve_right id⟩
  | _ => rw [e] at h; exact h.elim
/-- a comprehension over a cell whose turns leave the memory as it is: as over its items -/
theorem compC_LN {n : Nat} {g : GT} {tt : TF} {te : EF} {ρ : Ro} {μ : Mu} {xs : List D} (hm : μ[n]? = some (.lst xs)) (hz : xs.length ≤ 50000)
    (ht : ∀ d ∈ xs, ∃ ρ' b, g d ρ μ = some (ρ', μ) ∧ tt ρ' μ = .val b μ ∧ (b = true → ∃ y, te ρ' μ = .val y μ)) : ∀ (N i : Nat) (acc : List D), xs.length < N + i → i ≤ xs.length → acc.length ≤ i → compC n g tt te ρ N i μ acc = compL g tt te ρ (xs.drop i) μ acc
  | 0, i, acc, hN, hi, ha => absurd hN (by omega)
  | N + 1, i, acc, hN, hi, ha => by
    rw [compC, hm]
    by_cases hl : i < xs.length
    · have hx : xs[i]? = some xs[i] := List.getElem?_eq_getElem hl
      obtain ⟨ρ', b, h1, h2, h3⟩ := ht xs[i] (List.getElem_mem hl)
      rw [List.drop_eq_getElem_cons hl, compL_cons]
      simp only [hx, h1, h2]
      cases b with
      | true =>
        obtain ⟨y, h4⟩ := h3 rfl
        simp only [h4]
        rw [if_pos (by omega)]
        exact compC_LN hm hz ht N (i + 1) _ (by omega) hl (by rw [List.length_append]; show acc.length + 1 ≤ i + 1; omega)
      | false => exact compC_LN hm hz ht N (i + 1) _ (by omega) hl (by omega)
    · have e : i = xs.length := by omega
      subst e
      rw [List.drop_length]
      simp [compL]
theorem compC_L {n : Nat} {g : GT} {tt : TF} {te : EF} {ρ : Ro} {μ : Mu} {xs : List D} (hm : μ[n]? = some (.lst xs)) (hz : xs.length ≤ 50000)
    (ht : ∀ d ∈ xs, ∃ ρ' b, g d ρ μ = some (ρ', μ) ∧ tt ρ' μ = .val b μ ∧ (b = true → ∃ y, te ρ' μ = .val y μ)) : compC n g tt te ρ FUEL 0 μ [] = compL g tt te ρ xs μ [] := by
  have h := compC_LN hm hz ht FUEL 0 [] (by have := lt_fuel (n := xs.length) (by omega); omega) (Nat.zero_le _) (Nat.le_refl _)
  rwa [List.drop_zero] at h
theorem compC_mapD {α : Type} {n s : Nat} {te : EF} {ρ : Ro} {μ : Mu} {f h : α → D} {xs : List α} (hm : μ[n]? = some (.lst (mapD f xs))) (hz : xs.length ≤ 50000) (k : ∀ x ∈ xs, te (ρ.set s (some (f x))) μ = .val (h x) μ) : compC n (gN s) tfYes te ρ FUEL 0 μ [] = .val (mapD h xs) μ := by
  rw [compC_L hm (by unfold mapD; rw [List.length_map]; exact hz) fun d hd => by
    obtain ⟨x, hx, rfl⟩ := mapD_mem.mp hd
    exact ⟨_, true, rfl, rfl, fun _ => ⟨_, k x hx⟩⟩, compN_mapD k]
  rfl
theorem compC_filterD {α : Type} {n s : Nat} {tt : TF} {te : EF} {ρ : Ro} {μ : Mu} {f h : α → D} {q : α → Bool} {xs : List α} (hm : μ[n]? = some (.lst (mapD f xs))) (hz : xs.length ≤ 50000) (h1 : ∀ x ∈ xs, tt (ρ.set s (some (f x))) μ = .val (q x) μ) (k : ∀ x ∈ xs, q x = true → te (ρ.set s (some (f x))) μ = .val (h x) μ) :
    compC n (gN s) tt te ρ FUEL 0 μ [] = .val (mapD h (xs.filter q)) μ := by
  rw [compC_L hm (by unfold mapD; rw [List.length_map]; exact hz) fun d hd => by
    obtain ⟨x, hx, rfl⟩ := mapD_mem.mp hd
    exact ⟨_, q x, rfl, h1 x hx, fun e => ⟨_, k x hx e⟩⟩, compN_filterD h1 k]
  rfl
/-! list(range(..)), divmod -/
def gListRg : GF := fun d e μ => match d, e with
  | .int i, .int j => if Rng i ∧ Rng j ∧ (j - i).toNat ≤ 50000 then .val (.lst (mapD (fun k : Nat => D.int (i + (k : Int))) (List.range (j - i).toNat))) μ else .fail
  | _, _ => .fail
def gDivMod : List D → Mu → Res D := fun ds μ => match ds with
  | [.int i, .int j] => if 0 < j ∧ j < 1073741824 then .val (.tup [.int (i / j), .int (i % j)]) μ else .fail
  | _ => .fail
theorem gDivMod_ok {i j : Int} {μ : Mu} (h1 : 0 < j) (h2 : j < 1073741824) : gDivMod [.int i, .int j] μ = .val (.tup [.int (i / j), .int (i % j)]) μ := by
  unfold gDivMod
  exact if_pos ⟨h1, h2⟩
theorem gListRg_ok {i j : Int} {μ : Mu} (h1 : -1000000 ≤ i) (h2 : i ≤ 1000000) (h3 : -1000000 ≤ j) (h4 : j ≤ 1000000) (h5 : (j - i).toNat ≤ 50000) : gListRg (.int i) (.int j) μ = .val (.lst (mapD (fun k : Nat => D.int (i + (k : Int))) (List.range (j - i).toNat))) μ := by
  unfold gListRg
  exact if_pos ⟨⟨by omega, by omega⟩, ⟨by omega, by omega⟩, h5⟩
theorem rp_range {K : PySem.W.Frag} {S : Hp} {ad : Ad} (f : Nat → Int) : ∀ ks : List Nat, RpL K S ad (ks.map fun k => V.int (f k)) (mapD (fun k => D.int (f k)) ks)
  | [] => .nil
  | k :: r => .cons (.int _) (rp_range f r)
section
variable {X : Cx} {W : WX} {a b : Expr} {fa fb : EF} {p p2 pos pos2 : Pos}
theorem cb_divmod : CbO X W (.builtin "divmod") gDivMod := ⟨_, call_divmod, ⟨fun {H0 S0 ad0 tmp ρ μ σ H Q xs ds} hl R k => by
  obtain ⟨S, ad, c, r⟩ := R.args hl
  unfold gDivMod at k
  split at k
  · rename_i i j
    split at k
    · rename_i hj
      obtain ⟨v, w, rfl, rv, rw⟩ := rpL2 r
      cases rv; cases rw
      exact ⟨i, j, rfl, hj, fun p hp => k _ _ (newTup c (.cons (.int _) (.cons (.int _) .nil)) hp)⟩
    · exact k.elim
  · exact k.elim⟩⟩
theorem de_listRg (hc : X.calm = true) (hg : Gl X "list") (hm : X.mg "list" = none) (hg2 : Gl X "range") (hm2 : X.mg "range" = none) (ha : DE X W a fa) (hb : DE X W b fb)
    (na : starEach [a, b] X.env = (false, eval a X.env) :: starEach [b] X.env := by rfl) (nb : starEach [b] X.env = (false, eval b X.env) :: starEach [] X.env := by rfl) (hp : (backTo pos2 (starEach [b] X.env)).any (·.1) = false := by rfl)
    (n2 : starEach [.Call (.Name "range" p2) [a, b] [] pos2] X.env = (false, eval (.Call (.Name "range" p2) [a, b] [] pos2) X.env) :: starEach [] X.env := by rfl) : DE X W (.Call (.Name "list" p) [.Call (.Name "range" p2) [a, b] [] pos2] [] pos) (eOp gListRg fa fb) := by
  obtain ⟨ta, p1, q1⟩ := ha
  obtain ⟨tb, p3, q3⟩ := hb
  refine ⟨_, pe_listRg hc hg hm (prg_2 hg2 hm2 p1 p3 na nb hp) n2, ⟨fun {H0 S0 ad0 tmp ρ μ σ H Q} R k => ?_⟩⟩
  refine q1.run R ?_
  unfold eOp at k
  cases e1 : fa ρ μ with
  | fail => rw [e1] at k; exact k.elim
  | exc x μ1 => rw [e1] at k; exact k
  | val d μ1 =>
    rw [e1] at k
    simp only [bind_val] at k
    intro v H1 R1
    refine q3.run R1 ?_
    cases e2 : fb ρ μ1 with
    | fail => rw [e2] at k; exact k.elim
    | exc x μ1 => rw [e2] at k; exact fun cls dd H r => k cls dd H r.pop
    | val e μ2 =>
      rw [e2] at k
      simp only [bind_val] at k
      intro w H2 R2
      obtain ⟨S, ad, c, r1, r2⟩ := R2.two
      unfold gListRg at k
      split at k
      · rename_i i j
        split at k
        · rename_i hz
          cases r1; cases r2
          obtain ⟨h1, h2, h3⟩ := hz
          exact ⟨i, j, rfl, rfl, ⟨h1.lo, h1.hi, h2.lo, h2.hi, Nat.le_trans h3 (by decide)⟩, fun q hq => k _ _ (newLst c (rp_range (fun k => i + (k : Int)) _) hq)⟩
        · exact k.elim
      · exact k.elim
end
end
end Dn

/-! Dn21: walks of lists and comprehensions also where an exception is handled. -/
namespace Dn
open PySem PySem.Spec PyProof.Rows L2 HotX
open L2H (HotC Hot1 RoomH PinOk FnH)
section
variable {prog : Program} {w : World} {A : Around} {E : Value → Shared → Prop} {s : Shared}
theorem pyNext_list_end_hot {it l x1 : Addr} {i : Nat} {items : Array Value} {Q : Option Value → Shared → Prop} (hot : HotAt A x1 s.heap) (hne : x1 ≠ it)
    (hit : s.heap.IsListIter it l i) (hl : s.heap.IsList l items) (hx : items[i]? = none)
    (hQ : ∀ h', Heap.ExtBut it s.heap h' → Q none { s with heap := h' }) : wpAny (model prog w) A (pyNext (.ref it)) Q E s := by
  obtain ⟨hh, o1, vs1, h1, d1, c1⟩ := hot
  obtain ⟨o, ho, hc, hd⟩ := id hit
  obtain ⟨ol, hol, _, nl, hdl⟩ := hl
  unfold pyNext
  refine wpAny_bind (wpAny_attempt (wpAny_callSpecial?_slot (name := Str.ofString "__next__") hit.typeIs slot_listiter_next
    (wpAny_call_entry slot_listiter_next hit.typeIs entry_listiter_next ?_ (args_listiter_next _))))
  show wpAny _ _ (field (.ref it) 0 >>= _) _ _ s
  refine wpAny_bind (wpAny_field ho hd (x := .ref l) rfl ?_)
  show wpAny _ _ (if (Value.ref l == Value.none) = true then _ else _) _ _ s
  rw [if_neg (show ¬ ((Value.ref l == Value.none) = true) from Bool.false_ne_true)]
  show wpAny _ _ (field (.ref it) 1 >>= _) _ _ s
  refine wpAny_bind (wpAny_field ho hd (x := .int i 0) rfl ?_)
  show wpAny _ _ (seqItems? (.ref l) >>= _) _ _ s
  refine wpAny_bind (wpAny_seqItems hol hdl ?_)
  simp only [Int.toNat_natCast, hx]
  refine wpAny_bind (wpAny_rule (wpAny_bind (wpAny_setField ho hd (by simp) ?_)))
  show wpAny _ _ (newExc (.type "StopIteration") [] >>= _) _ _ _
  refine wpAny_bind ?_
  simp only [newExc, newTuple]
  refine wpAny_bind (wpAny_newObj_type ?_ (by size_fits))
  refine wpAny_bind (m := firstArgMember _ _) (wpAny_of_eq (a := Value.none) (by first | rfl | (simp only [firstArgMember]; rfl)) ?_)
  refine wpAny_newObj_type ?_ (by size_fits)
  have g1 : (s.heap.update it (Obj.mapFields fun vs => vs.setIfInBounds 0 Value.none)).get? x1 = some o1 := by
    first
    | (rw [Heap.get?_update_other _ _ (Ne.symm hne)]; exact h1)
    | (rw [Heap.get?_update_other _ _ hne]; exact h1)
  refine raiseNew_hot ⟨hh, o1, vs1, Heap.get?_push_of_some _ (Heap.get?_push_of_some _ g1), d1, c1⟩ (Nat.ne_of_lt (Heap.lt_size (Heap.get?_push_of_some _ g1))) (Heap.get?_push_size _ rfl) rfl (by first | (simp; done) | (simp; omega) | (simp only [Array.size_append]; simp; omega)) ?_
  refine wpAny_bind (wpAny_isInstance (T := "StopIteration") (b := true) ⟨_, Heap.get?_update_self _ (Heap.get?_push_size _ rfl) rfl, rfl⟩ isSubtype_stop ?_)
  refine wpAny_pure (hQ _ fun b o hb e => ?_)
  have z : (s.heap.update it (Obj.mapFields fun vs => vs.setIfInBounds 0 Value.none)).get? b = some o := by
    first
    | (rw [Heap.get?_update_other _ _ (Ne.symm hb)]; exact e)
    | (rw [Heap.get?_update_other _ _ hb]; exact e)
  rw [Heap.get?_update_other _ _ (Nat.ne_of_gt (Heap.lt_size (Heap.get?_push_of_some _ z)))]
  exact Heap.get?_push_of_some _ (Heap.get?_push_of_some _ z)
end
section
variable {prog : Program} {w : World} {A : Around} {E : Value → Shared → Prop} {s : Shared}
theorem next_tuple_end_hot {it t x1 : Addr} {i : Nat} {items : Array Value} {Q : Option Value → Shared → Prop} (hot : HotAt A x1 s.heap) (hne : x1 ≠ it)
    (hit : IsTupIter s.heap it t i) (ht : IsTup s.heap t items) (hx : items[i]? = none)
    (hQ : ∀ h', Heap.ExtBut it s.heap h' → Q none { s with heap := h' }) : wpAny (model prog w) A (pyNext (.ref it)) Q E s := by
  obtain ⟨hh, o1, vs1, h1, d1, c1⟩ := hot
  obtain ⟨o, ho, hc, hd⟩ := id hit
  obtain ⟨ol, hol, _, nl, hdl⟩ := ht
  unfold pyNext
  refine wpAny_bind (wpAny_attempt (wpAny_callSpecial?_slot (name := Str.ofString "__next__") hit.typeIs slot_tupleiter_next
    (wpAny_call_entry slot_tupleiter_next hit.typeIs entry_tupleiter_next ?_ (args_tupleiter_next _))))
  show wpAny _ _ (field (.ref it) 0 >>= _) _ _ s
  refine wpAny_bind (wpAny_field ho hd (x := .ref t) rfl ?_)
  show wpAny _ _ (if (Value.ref t == Value.none) = true then _ else _) _ _ s
  rw [if_neg (show ¬ ((Value.ref t == Value.none) = true) from Bool.false_ne_true)]
  show wpAny _ _ (field (.ref it) 1 >>= _) _ _ s
  refine wpAny_bind (wpAny_field ho hd (x := .int i 0) rfl ?_)
  show wpAny _ _ (seqItems? (.ref t) >>= _) _ _ s
  refine wpAny_bind (wpAny_seqItems hol hdl ?_)
  simp only [Int.toNat_natCast, hx]
  refine wpAny_bind (wpAny_rule (wpAny_bind (wpAny_setField ho hd (by simp) ?_)))
  show wpAny _ _ (newExc (.type "StopIteration") [] >>= _) _ _ _
  refine wpAny_bind ?_
  simp only [newExc, newTuple]
  refine wpAny_bind (wpAny_newObj_type ?_ (by size_fits))
  refine wpAny_bind (m := firstArgMember _ _) (wpAny_of_eq (a := Value.none) (by first | rfl | (simp only [firstArgMember]; rfl)) ?_)
  refine wpAny_newObj_type ?_ (by size_fits)
  have g1 : (s.heap.update it (Obj.mapFields fun vs => vs.setIfInBounds 0 Value.none)).get? x1 = some o1 := by
    first
    | (rw [Heap.get?_update_other _ _ (Ne.symm hne)]; exact h1)
    | (rw [Heap.get?_update_other _ _ hne]; exact h1)
  refine raiseNew_hot ⟨hh, o1, vs1, Heap.get?_push_of_some _ (Heap.get?_push_of_some _ g1), d1, c1⟩ (Nat.ne_of_lt (Heap.lt_size (Heap.get?_push_of_some _ g1))) (Heap.get?_push_size _ rfl) rfl (by first | (simp; done) | (simp; omega) | (simp only [Array.size_append]; simp; omega)) ?_
  refine wpAny_bind (wpAny_isInstance (T := "StopIteration") (b := true) ⟨_, Heap.get?_update_self _ (Heap.get?_push_size _ rfl) rfl, rfl⟩ isSubtype_stop ?_)
  refine wpAny_pure (hQ _ fun b o hb e => ?_)
  have z : (s.heap.update it (Obj.mapFields fun vs => vs.setIfInBounds 0 Value.none)).get? b = some o := by
    first
    | (rw [Heap.get?_update_other _ _ (Ne.symm hb)]; exact e)
    | (rw [Heap.get?_update_other _ _ hb]; exact e)
  rw [Heap.get?_update_other _ _ (Nat.ne_of_gt (Heap.lt_size (Heap.get?_push_of_some _ z)))]
  exact Heap.get?_push_of_some _ (Heap.get?_push_of_some _ z)
/-- a tuple is taken apart where an exception may be handled -/
theorem unpackItems_tupleE {t : Addr} {items : Array Value} {Q : List Value → Shared → Prop} (hot : A.handled = none ∨ ∃ x1, HotAt A x1 s.heap) (ht : IsTup s.heap t items)
    (hQ : ∀ h', Heap.ExtBut s.heap.objs.size s.heap h' → Q items.toList { s with heap := h' }) : wpAny (model prog w) A (unpackItems (.ref t) items.size none) Q E s := by
  rcases hot with hh | ⟨x1, hh, o1, vs1, g1, d1, c1⟩
  · exact unpackItems_tuple hh ht hQ
  have hlt : t ≠ s.heap.objs.size := by obtain ⟨o, ho, _⟩ := ht; exact Nat.ne_of_lt (Heap.lt_size ho)
  have hl1 : x1 ≠ s.heap.objs.size := Nat.ne_of_lt (Heap.lt_size g1)
  unfold unpackItems notIterableAtAll
  refine wpAny_bind (wpAny_bind (wpAny_specialOf ht.typeIs slot_tuple_iter.lookup (wpAny_pure ?_)))
  simp only [Bool.false_eq_true, if_false]
  refine wpAny_bind (wpAny_holding (iter_tuple ht ?_))
  refine wpAny_bind (wpAny_holding (draw_tuple hlt items.size 0 _ _ ⟨_, Heap.get?_push_size _ rfl, rfl, rfl⟩ (ht.push _) (by omega) fun h₁ hit₁ hs₁ => ?_))
  rw [show List.take items.size (List.drop 0 items.toList) = items.toList by rw [List.drop_zero]; exact List.take_of_length_le (by simp), if_neg (by simp)]
  have q1 : h₁.get? x1 = some o1 := hs₁.extBut x1 o1 hl1 (Heap.get?_push_of_some _ g1)
  refine wpAny_bind (wpAny_holding (next_tuple_end_hot ⟨hh, o1, vs1, q1, d1, c1⟩ hl1 hit₁ ((ht.push _).extBut hs₁.extBut hlt) (by simp) fun h₂ he₂ => ?_))
  simp only [Option.isSome_none, Bool.false_eq_true, if_false]
  exact wpAny_pure (hQ h₂ fun b o hb e => he₂ b o hb (hs₁.extBut b o hb (Heap.get?_push_of_some _ e)))
theorem assign_TupleE {env : Env} {elts : List Expr} {x1} {pos : Pos} {t : Addr} {items : Array Value} {Q : Unit → Shared → Prop} (hot : A.handled = none ∨ ∃ x1, HotAt A x1 s.heap) (ht : IsTup s.heap t items)
    (hn : (assignEach elts env).length = items.size) (hstar : (assignEach elts env).findIdx? (·.1) = none)
    (h : ∀ h', Heap.ExtBut s.heap.objs.size s.heap h' → wpAny (model prog w) A (assignInOrder ((assignEach elts env).map (·.2)) items.toList) Q E { s with heap := h' }) :
    wpAny (model prog w) A (assign (.Tuple elts x1 pos) env (.ref t)) Q E s := by
  rw [assign_Tuple]
  refine wpAny_bind (wpAny_standAt ?_)
  unfold unpack
  rw [hn, hstar]
  exact wpAny_bind (wpAny_holding (unpackItems_tupleE hot ht h))
end
/-! where a walk may end -/
/-- nothing is handled, or what is handled stands beside the walk's own objects -/
def EndOk (X : Cx) (fp : List Addr) : Prop := ∀ (pins : List (Addr × Obj)) (σ : L2.St) (H : Hp) (s : Shared), Inv X pins σ H s → (∀ b ∈ fp, FpOk X pins H b) → X.A.handled = none ∨ ∃ x1, HotAt X.A x1 s.heap ∧ x1 ∉ fp
theorem endOk_calm {X : Cx} {fp : List Addr} (hc : X.calm = true) : EndOk X fp := fun _ _ _ _ I _ => .inl (I.ok.hd hc)
theorem endOk_hot {X : Cx} {fp : List Addr} (hc : HotC X) : EndOk X fp := fun pins σ H s I hf => by
  obtain ⟨p, ⟨hh, v1, e1, c1⟩, hp⟩ := hc
  exact .inr ⟨p.1, ⟨hh, p.2, v1, (I.pin p (List.mem_append_left _ hp)).1, e1, c1⟩, fun hm => (hf p.1 hm).2.2.2.2.2 p (List.mem_append_left _ hp) rfl⟩
/-- a walk's turns, there -/
structure TurnE (P : Program) (w : World) (K : PySem.W.Frag) (tg : Expr) (J : It) (fp : List Addr) (it : Addr) (tn : Nat → Heap → Prop) : Prop where
  mem : it ∈ fp
  obj : ∀ i h, tn i h → ∀ b ∈ fp, ∃ o, h.get? b = some o ∧ ∀ v, o.data ≠ .cell v
  keep : ∀ i h h', tn i h → (∀ b ∈ fp, ∀ o, h.get? b = some o → h'.get? b = some o) → tn i h'
  item : ∀ (X : Cx), X.prog = P → X.w = w → X.K = K → ∀ (i : Nat) (pins : List (Addr × Obj)) (s : Shared) (σ : L2.St) (H : Hp) (E : Value → Shared → Prop), Inv X pins σ H s → (∀ b ∈ fp, FpOk X pins H b) → tn i s.heap → J.go i H →
    wpAny (model P w) X.A (pyNext (.ref it)) (fun r s1 => ∃ u, r = some u ∧
      wpAny (model P w) X.A (letOwnedTupleGo tg (.ref it) u) (fun _ s2 => ∃ x H', Inv X pins σ H' s2 ∧ RelV x u ∧ J.yld i H x H' ∧ tn (i + 1) s2.heap ∧ ∀ b ∈ fp, H' b = none) E s1) E s
  done : ∀ (X : Cx), X.prog = P → X.w = w → X.K = K → EndOk X fp → ∀ (i : Nat) (pins : List (Addr × Obj)) (s : Shared) (σ : L2.St) (H : Hp) (E : Value → Shared → Prop), Inv X pins σ H s → (∀ b ∈ fp, FpOk X pins H b) → tn i s.heap → J.stop i H →
    wpAny (model P w) X.A (pyNext (.ref it)) (fun r s1 => r = none ∧ Inv X pins σ H s1) E s
  self : ∀ (A : Around) (i : Nat) (s : Shared) (Q : Value → Shared → Prop) (E : Value → Shared → Prop), tn i s.heap → Q (.ref it) s → wpAny (model P w) A (pyIter (.ref it)) Q E s
theorem turn_listE {P : Program} {w : World} {K : PySem.W.Frag} {tg : Expr} (a it : Addr) : TurnE P w K tg (Itl K a) [it] it (fun i h => h.IsListIter it a i) where
  mem := (turn_list (P := P) (w := w) (K := K) (tg := tg) a it).mem
  obj := (turn_list (P := P) (w := w) (K := K) (tg := tg) a it).obj
  keep := (turn_list (P := P) (w := w) (K := K) (tg := tg) a it).keep
  self := (turn_list (P := P) (w := w) (K := K) (tg := tg) a it).self
  item := by
    intro X hP hw hK i pins s σ H E I hf st ⟨xs, x, hq, hx⟩
    subst hP hw hK
    obtain ⟨its, rv, p, _⟩ := I.list hq
    obtain ⟨u, hu, ru⟩ := rv.get hx
    obtain ⟨f0, f1, f2, f3, f4, f5⟩ := hf it (by simp)
    refine wpAny_pyNext_list_item st p.isList (x := u) (by simpa using hu) fun h' st' sb => ?_
    obtain ⟨o, e, c, d⟩ := id st'
    exact ⟨u, rfl, go_of (s := { s with heap := h' }) e c d (by decide) ⟨x, H, I.turned (t' := s.toks) (fun b o hb e => (sb.2 b hb).trans e) f0 f1 f3 f4 f5, ru, ⟨rfl, fun ys hy => by rw [I.list_inj hy hq]; exact hx⟩, st', fun b hb => (hf b hb).1⟩⟩
  done := by
    intro X hP hw hK hc i pins s σ H E I hf st ⟨xs, hq, hx⟩
    subst hP hw hK
    obtain ⟨its, rv, p, _⟩ := I.list hq
    obtain ⟨f0, f1, f2, f3, f4, f5⟩ := hf it (by simp)
    have hl := rv.length
    have hQ : ∀ h', Heap.ExtBut it s.heap h' → (none : Option Value) = none ∧ Inv X pins σ H { s with heap := h' } := fun h' eb => ⟨rfl, I.turned (t' := s.toks) (fun b o hb e => eb b o hb e) f0 f1 f3 f4 f5⟩
    rcases hc pins σ H s I hf with hh | ⟨x1, hot, hn⟩
    · exact wpAny_pyNext_list_end hh st p.isList (by simp; omega) hQ
    · exact pyNext_list_end_hot hot (fun e => hn (by rw [e]; simp)) st p.isList (by simp; omega) hQ
/-- an iterator has come -/
def PIEE (X : Cx) (pins : List (Addr × Obj)) (σ : L2.St) (tg : Expr) (R : It → Hp → Prop) (itv : Value) (s2 : Shared) : Prop :=
  ∃ (it : Addr) (fp : List Addr) (tn : Nat → Heap → Prop) (J : It) (H' : Hp), itv = .ref it ∧ Inv X pins σ H' s2 ∧ TurnE X.prog X.w X.K tg J fp it tn ∧ tn 0 s2.heap ∧ (∀ b ∈ fp, FpOk X pins H' b) ∧ R J H'
structure PIg (X : Cx) (tg iter : Expr) (wi : TI) : Prop where
  run : ∀ (pins : List (Addr × Obj)) (s : Shared) (σ : L2.St) (H : Hp) (R : It → Hp → Prop), Inv X pins σ H s → wi σ H R →
    wpAny (model X.prog X.w) X.A (eval iter X.env) (fun v s1 => wpAny (model X.prog X.w) X.A (pyIter v) (PIEE X pins σ tg R) X.xe s1) X.xe s
theorem pi_listE {X : Cx} {tg l : Expr} {tl : TE} (hl : PE X l tl) : PIg X tg l (iList X.K tl) := by
  refine ⟨fun pins s σ H R I h => thn (hl.run pins s σ H _ I h) fun v s1 ⟨x, H1, I1, r1, a, e, ⟨xs, hq⟩, q⟩ => ?_⟩
  subst e
  cases r1
  obtain ⟨its, rv, p, _⟩ := I1.list hq
  refine wpAny_pyIter_list p.isList ⟨s1.heap.objs.size, [s1.heap.objs.size], _, _, H1, rfl, I1.kept (t' := s1.toks) fun b o e => Heap.get?_push_of_some _ e, turn_listE a _, ⟨_, Heap.get?_push_size _ rfl, rfl, rfl⟩, fun b hb => ?_, q⟩
  obtain rfl : b = s1.heap.objs.size := by simpa using hb
  exact I1.fpOk (Nat.le_refl _) (I1.hok.fresh (Nat.le_refl _))
theorem pg_tupE {X : Cx} {es : List Expr} {k : Nat} {t : TGs} {n : Nat} {pos : Pos} (hc : EndOk X []) (h : PGs X es t)
    (hn : (assignEach es X.env).length = n := by rfl) (hst : (assignEach es X.env).findIdx? (·.1) = none := by rfl) : PG X (.Tuple es k pos) (gTup X.K n t) := by
  refine ⟨fun pins s σ H v u Q I r ⟨a, xs, e1, hq, hl, hw⟩ => ?_⟩
  subst e1
  cases r
  obtain ⟨its, rv, ht, hz⟩ := I.tuple hq
  have hot : X.A.handled = none ∨ ∃ x1, HotAt X.A x1 s.heap := (hc pins σ H s I (by simp)).imp id fun ⟨x1, q, _⟩ => ⟨x1, q⟩
  refine assign_TupleE hot ht (by simp [hn, ← hl, rv.length]) hst fun h' hx => ?_
  exact h.run pins _ σ H xs _ Q (I.kept (t' := s.toks) fun b o e => hx b o (Nat.ne_of_lt (Heap.lt_size e)) e) (by simpa using rv) hw
/-! for over a list, a comprehension, where an exception may be handled -/
section
theorem ps_forE {X : Cx} {tg : Expr} {iter : Expr} {body : List Stmt} {wi : TI} {g : TG} {tb : TS} {pos : Pos} (hp : PassesOwn (model X.prog X.w) X.A X.env X.xe) (hc : ∀ fp, EndOk X fp) (hi : PIg X tg iter wi) (hg : PG X tg g) (hb : PSs X body tb)
    (hs : ∀ x, foldedSetIterable iter X.env x = pure x := by intro _; rfl) : PS X (.For tg iter body [] pos) (tFor wi g tb) := by
  refine ⟨fun pins s σ H D I h => ?_⟩
  refine wpAny_For (thn (hi.run pins s σ H _ I h) fun v s1 h1 => thn h1 fun itv s2 h2 => ?_) hs
  obtain ⟨it, fp, tn, J, H2, e, I2, T, st2, f2, W, ⟨m0, w0⟩, turn⟩ := h2
  subst e
  -- what stays true of the iterator's objects through the loop
  have stat : ∀ {H' : Hp}, (∀ b ∈ fp, H' b = none) → ∀ b ∈ fp, FpOk X pins H' b := fun hn b hb => ⟨hn b hb, (f2 b hb).2⟩
  refine codeAny_forLoop_any (fun n s' => ∃ i σ' H', Inv X pins σ' H' s' ∧ tn i s'.heap ∧ (∀ b ∈ fp, H' b = none) ∧ W i n σ' H') ?_ m0 ⟨0, σ, H2, I2, st2, fun b hb => (f2 b hb).1, w0⟩
  rintro n s3 ⟨i, σ3, H3, I3, st3, fr3, w3⟩
  rcases turn i n σ3 H3 w3 with ⟨stop, qn⟩ | ⟨go, N, hN, step⟩
  · refine wpAny_passesOwn hp (thn (T.done X rfl rfl rfl (hc fp) i pins s3 σ3 H3 X.xe I3 (stat fr3) st3 stop) fun r s4 ⟨hr, I4⟩ => ?_)
    subst hr
    exact wpAny_execs_nil ⟨σ3, H3, I4, qn⟩
  · refine wpAny_passesOwn hp (thn (T.item X rfl rfl rfl i pins s3 σ3 H3 X.xe I3 (stat fr3) st3 go) fun r s4 ⟨u, hr, h4⟩ => ?_)
    subst hr
    refine wpAny_passesOwn hp (thn h4 fun _ s5 ⟨x, H5, I5, r5, y5, st5, fr5⟩ => ?_)
    have I5' := I5.pinned (stat fr5) (T.obj _ _ st5)
    refine wpAny_passesOwn hp (thn (hg.run _ s5 σ3 H5 x u _ I5' r5 (step x H5 y5)) fun _ s6 ⟨σ6, H6, I6, q6⟩ => ?_)
    refine wpAny_passesOwn hp (thn (hb.run _ s6 σ6 H6 _ I6 q6) fun f s7 q7 => ?_)
    have again : ∀ {σ7 : L2.St} {H7 : Hp}, Inv X (pins ++ pinsAt fp s5.heap) σ7 H7 s7 → N σ7 H7 → ∃ m, m < n ∧ ∃ i σ' H', Inv X pins σ' H' s7 ∧ tn i s7.heap ∧ (∀ b ∈ fp, H' b = none) ∧ W i m σ' H' := fun {σ7 H7} I7 n7 => by
      obtain ⟨m', hm, w7⟩ := hN σ7 H7 n7
      refine ⟨m', hm, i + 1, σ7, H7, I7.unpinned, T.keep _ _ _ st5 fun b hb o e => (I7.pin (b, o) (List.mem_append_right _ (List.mem_append_right _ (mem_pinsAt hb e)))).1, fun b hb => ?_, w7⟩
      obtain ⟨o, e, d⟩ := T.obj _ _ st5 b hb
      exact (I7.pin (b, o) (List.mem_append_right _ (List.mem_append_right _ (mem_pinsAt hb e)))).2.1
    cases f with
    | next => obtain ⟨σ7, H7, I7, n7⟩ := q7; exact again I7 n7
    | cont => obtain ⟨σ7, H7, I7, n7⟩ := q7; exact again I7 n7
    | brk => obtain ⟨σ7, H7, I7, q7⟩ := q7; exact ⟨σ7, H7, I7.unpinned, q7⟩
    | ret v => obtain ⟨x7, σ7, H7, I7, r7, q7⟩ := q7; exact ⟨x7, σ7, H7, I7.unpinned, r7, q7⟩
theorem lc_coreE {X : Cx} {pins : List (Addr × Obj)} {s : Shared} {σ : L2.St} {H : Hp} {Q : VK} {elt tg iter : Expr} {ifs : List Expr} {scope : Scope} {own : List (Str × Nat)} {pos pos' : Pos} {wi : TI} {g : TG} {tt : TT} {te : TE} {use : Option (Value → Sem Unit)} {Qf : Value → Shared → Prop}
    (hc : X.calm = true ∨ HotC X) (hN : X.N.Nodup) (I : Inv X pins σ H s) (hi : PIg X tg iter wi) (ok : BlkOk X.N X.env.scope scope own)
    (hg : ∀ (s : Shared) (H : Hp) (C : Addr) (cl : List (Str × Addr)) (fp : List Addr), EndOk (X.blk s H scope (compEnvC scope cl C X.env) fp) [] → PG (X.blk s H scope (compEnvC scope cl C X.env) fp) tg g) (ht : ∀ (s : Shared) (H : Hp) (C : Addr) (cl : List (Str × Addr)) (fp : List Addr), PTs (X.blk s H scope (compEnvC scope cl C X.env) fp) ifs tt)
    (he : ∀ (s : Shared) (H : Hp) (C : Addr) (cl : List (Str × Addr)) (fp : List Addr), PE (X.blk s H scope (compEnvC scope cl C X.env) fp) elt te) (hs : ∀ x, foldedSetIterable iter X.env x = pure x)
    (h : tLc wi g tt te (own.map (·.2)) σ H Q)
    (hRR : ∀ D C s' m H', Inv X pins σ H' s' → Q (.ref D) H' → s'.heap.Ns C m → FpOk X pins H' C → compPost (model X.prog X.w) X.A X.xe use Qf (.ref D) C (.ok .next) s') :
    wpAny (model X.prog X.w) X.A (comprehension (.ListComp elt [⟨tg, iter, ifs, 0⟩] scope pos) scope X.env pos' (newList []) false (eval iter X.env) use) Qf X.xe s := by
  have hfree : ∀ y ∈ scope.names, y.2 = .free → ∃ c, X.env.cells.lookup y.1 = some c := fun y hy e => by
    rcases ok.free y hy e with k | k
    · exact I.ok.has _ (.inl k)
    · exact I.ok.has _ (.inr k)
  refine wpAny_comprehension_free (use := use) rfl hs (closure_ok hfree) ok.kind (fun y hy e => by rw [ok.uniq y hy, e])
    (thn (hi.run pins s σ H _ I h) fun xv s1 hx => thn hx fun itv s2 h2 => ?_)
  obtain ⟨it, fp, tn, J, H2, e, I2, T, st2, f2, q⟩ := h2
  subst e
  refine wpAny_newObj_type (newEnv_comp ?_) (by show 0 ≤ sizeLine; decide)
  generalize hD : s2.heap.objs.size = D
  have hDn : H2 D = none := I2.hok.fresh (Nat.le_of_eq hD)
  obtain ⟨W, ⟨m0, w0⟩, turn⟩ := q D hDn
  -- the new list
  generalize hs3 : ({ s2 with heap := s2.heap.push { cls := .type "list", data := .seq ([] : List Value).toArray } } : Shared) = s3
  have I3 : Inv X pins σ (upd H2 D (.lst [])) s3 := by
    rw [← hs3]
    refine I2.laid (t' := s2.toks) (fun b o e => Heap.get?_push_of_some _ e) (Nat.le_of_eq hD) ⟨Nat.zero_le _, [], 0, .nil, ?_⟩
    rw [← hD]
    exact Heap.get?_push_size _ rfl
  have h3 : s3.heap = s2.heap.push { cls := .type "list", data := .seq ([] : List Value).toArray } := by rw [← hs3]
  have sz : ∀ b ∈ fp, b < s2.heap.objs.size := fun b hb => by
    obtain ⟨o, e, _⟩ := T.obj _ _ st2 b hb
    exact Heap.lt_size e
  have f3 : ∀ b ∈ fp, FpOk X pins (upd H2 D (.lst [])) b ∧ b < s3.heap.objs.size := fun b hb => by
    have hlt := sz b hb
    refine ⟨⟨?_, (f2 b hb).2⟩, by rw [h3, Heap.size_push]; exact Nat.lt_succ_of_lt hlt⟩
    rw [upd_ne (by rw [← hD]; exact Nat.ne_of_lt hlt)]
    exact (f2 b hb).1
  have st3 : tn 0 s3.heap := T.keep _ _ _ st2 fun b _ o e => by rw [h3]; exact Heap.get?_push_of_some _ e
  have I4 := block_start I3 ok hN f3
  have hend0 : EndOk (X.blk s3 (upd H2 D (.lst [])) scope (compEnvC scope (cellsFrom (s3.heap.objs.size + 1) scope.names (cloFrom X.env.cells scope.names [])) s3.heap.objs.size X.env) fp) [] := fun pins' σ' H' s' J hf => by
    rcases hc with hc | ⟨p, ⟨hh, v1, e1, c1⟩, hp⟩
    · exact .inl (I3.ok.hd hc)
    · have q3 := I3.pin p (List.mem_append_left _ hp)
      have nfp' : p.1 ∉ fp := fun hm => (f3 p.1 hm).1.2.2.2.2.2 p (List.mem_append_left _ hp) rfl
      have nfs : p.1 ∉ frs X.stack := fun hm => (List.mem_cons.mp (I3.stkSub p.1 hm)).elim q3.2.2.1 q3.2.2.2.1
      exact .inr ⟨p.1, ⟨hh, p.2, v1, J.base.keep p.1 p.2 q3.1 q3.2.1 nfs nfp', e1, c1⟩, by simp⟩
  have pg := hg s3 (upd H2 D (.lst [])) s3.heap.objs.size (cellsFrom (s3.heap.objs.size + 1) scope.names (cloFrom X.env.cells scope.names [])) fp hend0
  have pt := ht s3 (upd H2 D (.lst [])) s3.heap.objs.size (cellsFrom (s3.heap.objs.size + 1) scope.names (cloFrom X.env.cells scope.names [])) fp
  have pe := he s3 (upd H2 D (.lst [])) s3.heap.objs.size (cellsFrom (s3.heap.objs.size + 1) scope.names (cloFrom X.env.cells scope.names [])) fp
  show codeAny _ _ (.compStart (.ListComp elt [⟨tg, iter, ifs, 0⟩] scope pos) 0 (.ref it) (.ref D) (compEnvC scope (cellsFrom (s3.heap.objs.size + 1) scope.names (cloFrom X.env.cells scope.names [])) s3.heap.objs.size X.env)) (compPost (model X.prog X.w) X.A X.xe use Qf (.ref D) s3.heap.objs.size) { s3 with heap := pushCells (s3.heap.push { cls := .type "dict", data := .dict #[] }) scope.names }
  have nfp : ∀ b ∈ fp, (upd H2 D (.lst [])) b = none := fun b hb => (f3 b hb).1.1
  generalize hce : compEnvC scope (cellsFrom (s3.heap.objs.size + 1) scope.names (cloFrom X.env.cells scope.names [])) s3.heap.objs.size X.env = ce at I4 pg pt pe ⊢
  have cL : ce.locals = s3.heap.objs.size := by subst hce; rfl
  generalize hH3 : upd H2 D (.lst []) = H3 at I3 I4 pg pt pe w0 nfp f3
  generalize hs4 : ({ s3 with heap := pushCells (s3.heap.push { cls := .type "dict", data := .dict #[] }) scope.names } : Shared) = s4 at I4 ⊢
  have st4 : tn 0 s4.heap := T.keep _ _ _ st3 fun b _ o e => by rw [← hs4]; exact pushCells_keeps _ _ _ _ (Heap.get?_push_of_some _ e)
  have stat : ∀ {σ' : L2.St} {H' : Hp} {s' : Shared}, Inv (X.blk s3 H3 scope ce fp) [] σ' H' s' → (∀ b ∈ fp, H' b = none) → ∀ b ∈ fp, FpOk (X.blk s3 H3 scope ce fp) [] H' b := fun {σ' H' s'} I' hn b hb =>
    ⟨hn b hb, (I'.ok.exf b hb).1, I'.ok.exfs b hb, .inl hb, fun x c e => (I'.ok.exf b hb).2 x c e, fun p hp => absurd (show p ∈ ([] : List (Addr × Obj)) ++ [] from hp) (by simp)⟩
  have hend : EndOk (X.blk s3 H3 scope ce fp) fp := fun pins' σ' H' s' J hf => by
    rcases hc with hc | ⟨p, ⟨hh, v1, e1, c1⟩, hp⟩
    · exact .inl (I3.ok.hd hc)
    · have q3 := I3.pin p (List.mem_append_left _ hp)
      have nfp' : p.1 ∉ fp := fun hm => (f3 p.1 hm).1.2.2.2.2.2 p (List.mem_append_left _ hp) rfl
      have nfs : p.1 ∉ frs X.stack := fun hm => (List.mem_cons.mp (I3.stkSub p.1 hm)).elim q3.2.2.1 q3.2.2.2.1
      exact .inr ⟨p.1, ⟨hh, p.2, v1, J.base.keep p.1 p.2 q3.1 q3.2.1 nfs nfp', e1, c1⟩, nfp'⟩
  have loop : codeAny (model X.prog X.w) X.A (.compLoop (.ListComp elt [⟨tg, iter, ifs, 0⟩] scope pos) 0 (.ref it) (.ref D) ce) (compPost (model X.prog X.w) X.A X.xe use Qf (.ref D) s3.heap.objs.size) s4 := by
    refine compLoop_any (fun n s' => ∃ i H', Inv (X.blk s3 H3 scope ce fp) [] (wipe σ (own.map (·.2))) H' s' ∧ tn i s'.heap ∧ (∀ b ∈ fp, H' b = none) ∧ W i n H') ?_ m0 ⟨0, H3, I4, st4, nfp, w0⟩
    rintro n s5 ⟨i, H5, I5, st5, n5, w5⟩
    rcases turn i n H5 w5 with ⟨stop, qq⟩ | ⟨go, Nx, hNx, step⟩
    · have td := T.done (X.blk s3 H3 scope ce fp) rfl rfl rfl hend i [] s5 _ H5 (fun _ _ => False) I5 (stat I5 n5) st5 stop
      refine thnF td fun r s6 ⟨hr, I6⟩ => ?_
      subst hr
      -- back in the def's context
      have I7 : Inv X pins σ H5 s6 := I3.call' (ch := fp) I6.os I6.base I6.hok I6.bare fun b hb => ⟨(f3 b hb).1.2.2.2.1, (f3 b hb).1.2.1, (f3 b hb).1.2.2.2.2.1, (f3 b hb).1.2.2.2.2.2⟩
      have nC : H5 s3.heap.objs.size = none := by
        have z : H5 ce.locals = none := I6.free
        rw [cL] at z
        exact z
      obtain ⟨m, hn, _⟩ := I6.loc
      have hn : s6.heap.Ns ce.locals m := hn
      rw [cL] at hn
      exact hRR D s3.heap.objs.size s6 m H5 I7 qq hn (I3.fpOk (Nat.le_refl _) nC)
    · have ti := T.item (X.blk s3 H3 scope ce fp) rfl rfl rfl i [] s5 _ H5 (fun _ _ => False) I5 (stat I5 n5) st5 go
      refine thnF ti fun r s6 ⟨u, hr, h6⟩ => ?_
      subst hr
      refine thnF h6 fun _ s7 ⟨x, H7, I7, r7, y7, st7, n7⟩ => ?_
      have I7' := I7.pinned (stat I7 n7) (T.obj _ _ st7)
      refine thnF (pg.run _ s7 _ H7 x u _ I7' r7 (step x H7 y7)) fun _ s8 ⟨σ8, H8, I8, hw8, q8⟩ => ?_
      refine thnF (pt.run _ s8 σ8 H8 _ I8 q8) fun b s9 ⟨H9, I9, q9⟩ => ?_
      -- the turn's end
      have fin : ∀ {s' : Shared} {H' : Hp}, Inv (X.blk s3 H3 scope ce fp) ([] ++ pinsAt fp s7.heap) σ8 H' s' → Nx H' → ∃ m, m < n ∧ ∃ i H', Inv (X.blk s3 H3 scope ce fp) [] (wipe σ (own.map (·.2))) H' s' ∧ tn i s'.heap ∧ (∀ b ∈ fp, H' b = none) ∧ W i m H' := fun {s' H'} I' nx => by
        obtain ⟨m', hm, w'⟩ := hNx H' nx
        have pin' : ∀ b ∈ fp, ∀ o, s7.heap.get? b = some o → s'.heap.get? b = some o ∧ H' b = none := fun b hb o e =>
          let z := I'.pin (b, o) (List.mem_append_right _ (List.mem_append_right _ (mem_pinsAt hb e)))
          ⟨z.1, z.2.1⟩
        have hl : (wipe σ (own.map (·.2))).length = σ8.length := by rw [← hw8, wipe_length]
        refine ⟨m', hm, i + 1, H', (I'.unpinned (pins := [])).weak hl (fun j v e => ?_), T.keep _ _ _ st7 fun b hb o e => (pin' b hb o e).1, fun b hb => ?_, w'⟩
        · rw [← hw8] at e
          exact (wipe_some e).1
        · obtain ⟨o, e, _⟩ := T.obj _ _ st7 b hb
          exact (pin' b hb o e).2
      cases b with
      | false =>
        simp only [Bool.false_eq_true, if_false] at q9 ⊢
        exact fin I9 q9
      | true =>
        simp only [if_true] at q9 ⊢
        refine thnF (pe.run _ s9 σ8 H9 _ I9 q9) fun z s10 ⟨yv, H10, I10, r10, acc, hD10, hz10, nx⟩ => ?_
        exact app_ok (X := X.blk s3 H3 scope ce fp) I10 hD10 hz10 r10 fun s11 I11 => fin I11 nx
  exact codeAny_compStart_list loop (T.self X.A 0 _ _ _ st4 loop)
/-- as a value, there -/
theorem pe_lcE {X : Cx} {elt tg iter : Expr} {ifs : List Expr} {scope : Scope} {own : List (Str × Nat)} {pos : Pos} {wi : TI} {g : TG} {tt : TT} {te : TE} (hc : X.calm = true ∨ HotC X) (hN : X.N.Nodup) (hi : PIg X tg iter wi) (ok : BlkOk X.N X.env.scope scope own)
    (hg : ∀ (s : Shared) (H : Hp) (C : Addr) (cl : List (Str × Addr)) (fp : List Addr), EndOk (X.blk s H scope (compEnvC scope cl C X.env) fp) [] → PG (X.blk s H scope (compEnvC scope cl C X.env) fp) tg g) (ht : ∀ (s : Shared) (H : Hp) (C : Addr) (cl : List (Str × Addr)) (fp : List Addr), PTs (X.blk s H scope (compEnvC scope cl C X.env) fp) ifs tt)
    (he : ∀ (s : Shared) (H : Hp) (C : Addr) (cl : List (Str × Addr)) (fp : List Addr), PE (X.blk s H scope (compEnvC scope cl C X.env) fp) elt te) (hs : ∀ x, foldedSetIterable iter X.env x = pure x := by intro _; rfl) :
    PE X (.ListComp elt [⟨tg, iter, ifs, 0⟩] scope pos) (tLc wi g tt te (own.map (·.2))) := by
  refine ⟨fun pins s σ H Q I h => ?_⟩
  rw [eval_ListComp]
  refine lc_coreE hc hN I hi ok hg ht he hs h fun D C s' m H' I' q hn f => ⟨m, hn, fun h'' sb => ?_⟩
  obtain ⟨f0, f1, f2, f3, f4, f5⟩ := f
  exact ⟨.ref D, H', I'.turned (t' := s'.toks) (fun b o hb e => (sb.2 b hb).trans e) f0 f1 f3 f4 f5, rfl, q⟩
/-- name = [..], there -/
theorem ps_setLcE {X : Cx} {i : Nat} {y : Str} {py : Pos} {elt tg iter : Expr} {ifs : List Expr} {scope : Scope} {own : List (Str × Nat)} {pos spos : Pos} {wi : TI} {g : TG} {tt : TT} {te : TE} (hc : X.calm = true ∨ HotC X) (hN : X.N.Nodup) (hy : X.N[i]? = some y) (hyl : X.env.scope.names.lookup y = some .local)
    (hsw : swapsWith (.ListComp elt [⟨tg, iter, ifs, 0⟩] scope pos) (some (.Name y py)) spos.line X.env = pure true) (hi : PIg X tg iter wi) (ok : BlkOk X.N X.env.scope scope own)
    (hg : ∀ (s : Shared) (H : Hp) (C : Addr) (cl : List (Str × Addr)) (fp : List Addr), EndOk (X.blk s H scope (compEnvC scope cl C X.env) fp) [] → PG (X.blk s H scope (compEnvC scope cl C X.env) fp) tg g) (ht : ∀ (s : Shared) (H : Hp) (C : Addr) (cl : List (Str × Addr)) (fp : List Addr), PTs (X.blk s H scope (compEnvC scope cl C X.env) fp) ifs tt)
    (he : ∀ (s : Shared) (H : Hp) (C : Addr) (cl : List (Str × Addr)) (fp : List Addr), PE (X.blk s H scope (compEnvC scope cl C X.env) fp) elt te) (hs : ∀ x, foldedSetIterable iter X.env x = pure x := by intro _; rfl) :
    PS X (.Assign [.Name y py] (.ListComp elt [⟨tg, iter, ifs, 0⟩] scope pos) spos) (tAsg (tLc wi g tt te (own.map (·.2))) (gName i)) := by
  refine ⟨fun pins s σ H D I h => ?_⟩
  rw [exec_Assign_Name_used _ _ _ _ hsw]
  refine wpAny_bind (wpAny_standAt (wpAny_bind ?_))
  show wpAny _ X.A (do let _ ← comprehension (.ListComp elt [⟨tg, iter, ifs, 0⟩] scope pos) scope X.env (firstIterPos [⟨tg, iter, ifs, 0⟩] pos) (newList []) false (eval iter X.env) (some (assign (.Name y py) X.env))) _ _ s
  have h : tLc wi g tt te (own.map (·.2)) σ H (fun x H1 => gName i x σ H1 D.nx) := h
  refine wpAny_bind (thn (lc_coreE (Qf := fun _ s' => SP X pins D .next s') hc hN I hi ok hg ht he hs h fun L C s' m H' I' q hn f => ?_) fun _ s' hq => wpAny_pure (wpAny_pure hq))
  show wpAny _ _ (assign (.Name y py) X.env (.ref L)) _ _ _
  refine wpAny_assign_Name (store_ok2 (v := V.ref L) I' hN hy (.inl hyl) rfl (fun s2 I2 ⟨a, sb, ha⟩ => ?_) (.inr hyl))
  obtain ⟨f0, f1, f2, f3, f4, f5⟩ := f
  have haC : C ≠ a := by
    rcases ha with z | z
    · rw [z]; exact f1
    · exact fun e => f4 y a z e.symm
  refine ⟨m, hn.sameBut sb haC, fun h3 sb3 => ?_⟩
  exact ⟨_, H', I2.turned (t' := s2.toks) (fun b o hb e => (sb3.2 b hb).trans e) f0 f1 f3 f4 f5, q⟩
end
end Dn

/-! Dn19: isinstance of instances by own classes; defs with defaults; self.x += e. -/
namespace Dn
open PySem PySem.Spec PyProof.Rows L2
/-- what isinstance asks of an instance's class -/
structure IsI (K : PySem.W.Frag) (C : Addr) : Prop where
  cl : Cls K C
  a1 : PySem.W.findIn K (.ref C) "__class__" = some (some (.builtin "object.__class__"))
  a2 : PySem.W.specialIn K (.builtin "object.__class__") "__get__" = some (some (.builtin "getset_descriptor.__get__"))
  a3 : PySem.W.takesIn K (.builtin "object.__class__") = some true
  a4 : PySem.W.mroIn K C (.type "object") = some true
/-- isinstance(x, C): x an instance; C: the class j; tb: the answers by its class's number -/
@[simp] def gIsC (ca : Nat → Addr) (j : Nat) (tb : List (Nat × Bool)) : List D → Mu → Res D := fun ds μ => match ds with
  | [.ref n, .raw (.ref D)] => (match μ[n]? with
    | some (.ins i C _) => (match tb.lookup i with
      | some b => if C = ca i ∧ D = ca j then .val (.bl b) μ else .fail
      | none => .fail)
    | _ => .fail)
  | _ => .fail
theorem tb_cons {P : Nat → Bool → Prop} {i : Nat} {b : Bool} {r : List (Nat × Bool)} (h : P i b) (k : ∀ j c, r.lookup j = some c → P j c) : ∀ j c, ((i, b) :: r).lookup j = some c → P j c := fun j c e => by
  by_cases q : j = i
  · subst q
    rw [List.lookup_cons_self] at e
    cases e
    exact h
  · have e' : (j == i) = false := beq_eq_false_iff_ne.mpr q
    rw [List.lookup, e'] at e
    exact k j c e
theorem tb_nil {P : Nat → Bool → Prop} : ∀ j c, ([] : List (Nat × Bool)).lookup j = some c → P j c := fun j c e => by cases e
section
variable {X : Cx} {W : WX} {ca : Nat → Addr}
theorem simC_isC {K : PySem.W.Frag} (j : Nat) (tb : List (Nat × Bool)) (h : ∀ i b, tb.lookup i = some b → IsI K (ca i) ∧ PySem.W.kitOne K (.ref (ca i)) (.ref (ca j)) = some b) : SimC K W (rIsi K) (gIsC ca j tb) := ⟨fun {H0 S0 ad0 tmp ρ μ σ H Q xs ds} hl R k => by
  obtain ⟨S, ad, c, r⟩ := R.args hl
  unfold gIsC at k
  split at k
  · rename_i n D
    obtain ⟨v, w, rfl, r1, r2⟩ := rpL2 r
    split at k
    · rename_i i C fs hm
      split at k
      · rename_i b hb
        split at k
        · rename_i hC
          obtain ⟨rfl, rfl⟩ := hC
          obtain ⟨q1, q2⟩ := h i b hb
          cases r2
          cases r1 with
          | ref ha =>
            obtain ⟨dx, ws, g1, g2⟩ := (c.at_ n _ _ ha hm).insR
            exact ⟨_, _, _, _, b, rfl, .own _, .base (.ins g1 q1.cl q1.a1 q1.a2 q1.a3 q1.a4), q2, k _ _ (c.flat (flat_bl _))⟩
        · exact k.elim
      · exact k.elim
    · exact k.elim
  · exact k.elim⟩
/-- isinstance(e, C) -/
theorem de_isC {e : Expr} {fe : EF} {p pos p2 : Pos} {C : Str} (j : Nat) (tb : List (Nat × Bool)) (h : ∀ i b, tb.lookup i = some b → IsI X.K (ca i) ∧ PySem.W.kitOne X.K (.ref (ca i)) (.ref (ca j)) = some b) (hg : Gl X "isinstance") (hm : X.mg "isinstance" = none)
    (hgC : Gl X C) (hmC : X.mg C = some (.ref (ca j))) (he : DE X W e fe) (hdC : (C == ("__debug__" : Str)) = false := by decide)
    (hs : starEach [e, .Name C p2] X.env = (false, eval e X.env) :: starEach [.Name C p2] X.env := by rfl) (hpl : (backTo pos (starEach [.Name C p2] X.env)).any (·.1) = false := by rfl) : DE X W (.Call (.Name "isinstance" p) [e, .Name C p2] [] pos) (eCB (gIsC ca j tb) (aCons fe (aCons (eC (.raw (.ref (ca j)))) aNil))) := by
  have hc : DE X W (.Name C p2) (eC (.raw (.ref (ca j)))) := de_glob hgC hmC rfl hdC
  obtain ⟨t, p1, q1⟩ := da_cons he (da_cons hc da_nil) hs
  exact ⟨_, pe_callB (id := "isinstance") call_isi hg hm rfl p1 (by decide) (by decide) hs hpl, simE_cb q1 (simC_isC j tb h)⟩
end
/-! self.x += e -/
theorem simS_fldA {K : PySem.W.Frag} {W : WX} {ca : Nat → Addr} {is : List Nat} {f : Str} {to tv : TE} {fo fv : EF} {rd : V → V → Hp → VK → Prop} {g : GF} (hC : ∀ i ∈ is, Cls K (ca i) ∧ NoAttr K (ca i) f) (ho : SimE K W0 to fo) (hv : SimE K W0 tv fv) (hg : SimO K W0 rd g) : SimS K W (sFldAug K to tv rd f) (sFldA ca is f fo fv g) := ⟨fun {H0 S0 ad0 tmp ρ μ σ H E} R k => by
  refine ho.run R ?_
  unfold sFldA at k
  split at k
  · rename_i d μ1 e1
    rw [e1]
    intro v H1 R1
    split at k
    · rename_i p hp
      split at k
      · rename_i x hx
        obtain ⟨S, ad, c⟩ := id R1
        obtain ⟨a, dx, ws, rfl, hd, ha, hi, g1, g2⟩ := insOf_at c c.hd hp
        obtain ⟨u, l1, l2⟩ := lkD_some g2 hx
        refine ⟨a, _, dx, ws, u, rfl, g1, (hC _ hi).1, (hC _ hi).2, l1, ?_⟩
        have R2 : Rel K H0 S0 ad0 ((u, x) :: (.ref a, d) :: tmp) ρ μ1 σ H1 := ⟨S, ad, c.push l2⟩
        refine hv.run R2 ?_
        split at k
        · rename_i y μ2 e2
          rw [e2]
          intro w H2 R3
          split at k
          · rename_i z μ3 e3
            have R3 : Rel K H0 S0 ad0 ((w, y) :: (u, x) :: ((.ref a, d) :: tmp)) ρ μ2 σ H2 := R3
            refine hg.run R3 ?_
            rw [e3]
            intro t H3 R4
            split at k
            · rename_i q hq
              split at k
              · rename_i hl
                obtain ⟨S3, ad3, c3⟩ := R4
                have rz := c3.hd
                have rd := c3.pop.hd
                obtain ⟨a3, dx3, ws3, ea, hd3, ha3, hi3, h1, h2⟩ := insOf_at c3 rd hq
                cases ea
                rw [hl.1] at h1
                refine ⟨dx3, ws3, h1, by rw [h2.length]; omega, k _ _ ⟨S3, ad3, ?_⟩⟩
                rw [hl.1]
                exact wrIns c3.pop.pop ha3 (putFD_at rz h2)
              · exact k.elim
            · exact k.elim
          · exact k.elim
        · exact k.elim
      · exact k.elim
    · exact k.elim
  · exact k.elim⟩
theorem ds_fldAdd {X : Cx} {W : WX} {ca : Nat → Addr} {o value : Expr} {f : Str} {fo fv : EF} {pos tpos : Pos} (is : List Nat) (hC : ∀ i ∈ is, Cls X.K (ca i) ∧ NoAttr X.K (ca i) f) (ho : DE X W0 o fo) (hv : DE X W0 value fv) : DS X W (.AugAssign (.Attribute o f tpos) .Add value pos) (sFldA ca is f fo fv (gI fun i j => .int (i + j))) :=
  let ⟨_, p1, q1⟩ := ho; let ⟨_, p2, q2⟩ := hv; ⟨_, ps_fldaug p1 p2 in_add, simS_fldA hC q1 q2 sim_ipI⟩
/-! defs with defaults -/
structure FunD (K : PySem.W.Frag) (x qual : Str) (st : Stmt) (f : Addr) (fd : FuncData) : Prop where
  ex : ∃ (dV oc : Value) (od : Option Addr) (kV doc pm : Value) (an : Option Addr) (cdv ct : Value) (osl : Array (Option Value)),
    fd = PySem.W.fnOf x qual (defArgs st) (defBody st) (defScope st) dV kV doc pm an cdv ct ∧ K.lookup f = some ⟨oc, od, .func fd, osl⟩ ∧ PySem.W.codeIn K cdv qual = true
  kp : PySem.W.keepIn K (.ref f) = true
theorem funD_mk {K : PySem.W.Frag} {x qual : Str} {st : Stmt} {f : Addr} {oc dV : Value} {od an : Option Addr} {osl : Array (Option Value)} {kV doc pm cdv ct : Value} (l : K.lookup f = some ⟨oc, od, .func (PySem.W.fnOf x qual (defArgs st) (defBody st) (defScope st) dV kV doc pm an cdv ct), osl⟩) (c : PySem.W.codeIn K cdv qual = true) (k : PySem.W.keepIn K (.ref f) = true) :
    FunD K x qual st f (PySem.W.fnOf x qual (defArgs st) (defBody st) (defScope st) dV kV doc pm an cdv ct) := ⟨⟨dV, oc, od, kV, doc, pm, an, cdv, ct, osl, rfl, l, c⟩, k⟩
section
variable {P : Program} {w : World} {K : PySem.W.Frag} {mg : Str → Option Value} {base : Heap}
theorem fnND {x qual : Str} {st : Stmt} {f : Addr} {fd : FuncData} {N ps : List Str} {k : Nat} {b : SF} (F : FunD K x qual st f fd) (S : FnScope N ps (defScope st))
    (hb : ∀ (cdv : Value) (A : Around) (outer : List Env) (s : Shared) (H : Hp) (E : XK), Room k (A.deeper (envOfC qual (defScope st) s.heap.objs.size f cdv)) → DSs (cxOf CX0 P w K mg base N qual (defScope st) f cdv A outer s H E).nox W0 (defBody st) b) :
    FnOk P w K mg base CX0 (k + 1) f fd ps (spN K ps.length (runF N.length b)) := by
  obtain ⟨dV, oc, od, kV, doc, pm, an, cdv, ct, osl, rfl, look, hcode⟩ := F.ex
  refine fn_of look hcode S (fun vs H Q E h => by obtain ⟨_, _, _, _, h, _⟩ := h; exact h) (fun A outer s H vs Q E hr h => ?_)
  obtain ⟨S1, ad, μ, ds, hl, hd, c, k⟩ := h
  obtain ⟨t, p, q⟩ := hb _ A outer s H E hr
  refine ⟨t, p.nox, q.run ⟨S1, ad, c.start (N := N) (by rw [hl, hd]) (by
    have := congrArg List.length S.pre
    rw [List.length_take] at this
    omega)⟩ ?_⟩
  unfold runF at k
  cases e : b (ds.map some ++ List.replicate (N.length - ds.length) none) μ with
  | ret d μ' => rw [e] at k; exact fun v ρ σ H R => k v H R.noslots
  | nx ρ μ' => rw [e] at k; exact fun σ H R => k .non H (R.noslots.flat flat_non)
  | exc x ρ μ' => rw [e] at k; exact k.elim
  | bk ρ μ' => rw [e] at k; exact k.elim
  | ct ρ μ' => rw [e] at k; exact k.elim
  | fail => rw [e] at k; exact k.elim
theorem fnXD {x qual : Str} {st : Stmt} {f : Addr} {fd : FuncData} {N ps : List Str} {k : Nat} {b : SF} (F : FunD K x qual st f fd) (S : FnScope N ps (defScope st))
    (hb : ∀ (cdv : Value) (A : Around) (outer : List Env) (s : Shared) (H : Hp) (E : XK), Room k (A.deeper (envOfC qual (defScope st) s.heap.objs.size f cdv)) → DSs (cxOf (L2.CX P w) P w K mg base N qual (defScope st) f cdv A outer s H E) (WofE E) (defBody st) b) :
    FnOk P w K mg base (L2.CX P w) (k + 1) f fd ps (spX K ps.length (runF N.length b)) := by
  obtain ⟨dV, oc, od, kV, doc, pm, an, cdv, ct, osl, rfl, look, hcode⟩ := F.ex
  refine fn_of look hcode S (fun vs H Q E h => by obtain ⟨_, _, _, _, h, _⟩ := h; exact h) (fun A outer s H vs Q E hr h => ?_)
  obtain ⟨S1, ad, μ, ds, hl, hd, c, k⟩ := h
  obtain ⟨t, p, q⟩ := hb _ A outer s H E hr
  refine ⟨t, p, q.run ⟨S1, ad, c.start (N := N) (by rw [hl, hd]) (by
    have := congrArg List.length S.pre
    rw [List.length_take] at this
    omega)⟩ ?_⟩
  unfold runF at k
  cases e : b (ds.map some ++ List.replicate (N.length - ds.length) none) μ with
  | ret d μ' => rw [e] at k; exact fun v ρ σ H R => k v H R.noslots
  | nx ρ μ' => rw [e] at k; exact fun σ H R => k .non H (R.noslots.flat flat_non)
  | exc x ρ μ' =>
    rw [e] at k
    rintro cls dd σ H' ⟨e1, S2, ad2, c2, q2⟩
    exact k cls dd H' ⟨e1, S2, ad2, c2.noslots, q2⟩
  | bk ρ μ' => rw [e] at k; exact k.elim
  | ct ρ μ' => rw [e] at k; exact k.elim
  | fail => rw [e] at k; exact k.elim
end
end Dn

/-! Dn22: exceptions raised where nothing is handled (L2N), calls with defaults, making that may raise; try .. as; defs that are called in a suite. -/
namespace Dn
open PySem PySem.Spec PyProof.Rows L2 HotX
open L2H (HotC Hot1 RoomH PinOk cxH inv_startH)
theorem passAtN {X : Cx} {W : WX} (tk : L2N.Takes X W) (σ : L2.St) : PassesAt (L2N.CX X.prog X.w) X σ (WE W σ) := fun _ _ _ e s' I c => tk e s' (L2N.XE.of_call I (fun _ _ _ h => h) c)
section
variable {X : Cx} {W : WX} {ca : Nat → Addr} {pos : Pos}
theorem ds_raiseN {e : Expr} (i : Nat) (hc : X.calm = true) (tk : L2N.Takes X W) (he : L2N.PMk X e (fun _ H Q => Q (.ref (ca i)) none H)) : DS X W (.Raise (some e) none pos) (sRaise ca i) :=
  ⟨_, L2N.ps_raise hc tk he, ⟨fun {H0 S0 ad0 tmp ρ μ σ H E} R k => by
    obtain ⟨S, ad, c⟩ := R
    exact k _ _ _ _ ⟨rfl, S, ad, c, .inl ⟨rfl, rfl⟩⟩⟩⟩
end
/-! defs that may raise -/
section
variable {P : Program} {w : World} {K : PySem.W.Frag} {mg : Str → Option Value} {base : Heap} {N ps : List Str} {k : Nat} {b : SF} {x qual : Str} {st : Stmt} {f : Addr} {fd : FuncData}
theorem bodyN {t : TS} {E : XK} {vs : List V} {Q : VK} {H : Hp} (S : FnScope N ps (defScope st)) (q : SimS K (WofE E) t b) (h : spX K ps.length (runF N.length b) vs H Q E) : t { nx := fun _ H' => Q .non H', rt := Q } (L2.start N vs) H := by
  obtain ⟨S1, ad, μ, ds, hl, hd, c, k⟩ := h
  refine q.run ⟨S1, ad, c.start (N := N) (by rw [hl, hd]) (by
    have := congrArg List.length S.pre
    rw [List.length_take] at this
    omega)⟩ ?_
  unfold runF at k
  cases e : b (ds.map some ++ List.replicate (N.length - ds.length) none) μ with
  | ret d μ' => rw [e] at k; exact fun v ρ σ H R => k v H R.noslots
  | nx ρ μ' => rw [e] at k; exact fun σ H R => k .non H (R.noslots.flat flat_non)
  | exc x ρ μ' =>
    rw [e] at k
    rintro cls dd σ H' ⟨e1, S2, ad2, c2, q2⟩
    exact k cls dd H' ⟨e1, S2, ad2, c2.noslots, q2⟩
  | bk ρ μ' => rw [e] at k; exact k.elim
  | ct ρ μ' => rw [e] at k; exact k.elim
  | fail => rw [e] at k; exact k.elim
theorem fnXN (F : Fun K x qual st f fd) (S : FnScope N ps (defScope st))
    (hb : ∀ (cdv : Value) (A : Around) (outer : List Env) (s : Shared) (H : Hp) (E : XK), Room k (A.deeper (envOfC qual (defScope st) s.heap.objs.size f cdv)) → DSs (cxOf (L2N.CX P w) P w K mg base N qual (defScope st) f cdv A outer s H E) (WofE E) (defBody st) b) :
    FnOk P w K mg base (L2N.CX P w) (k + 1) f fd ps (spX K ps.length (runF N.length b)) := by
  obtain ⟨oc, od, kV, doc, pm, an, cdv, ct, osl, rfl, look, hcode⟩ := F.ex
  refine fn_of look hcode S (fun vs H Q E h => by obtain ⟨_, _, _, _, h, _⟩ := h; exact h) (fun A outer s H vs Q E hr h => ?_)
  obtain ⟨t, p, q⟩ := hb _ A outer s H E hr
  exact ⟨t, p, bodyN S q h⟩
theorem fnXND (F : FunD K x qual st f fd) (S : FnScope N ps (defScope st))
    (hb : ∀ (cdv : Value) (A : Around) (outer : List Env) (s : Shared) (H : Hp) (E : XK), Room k (A.deeper (envOfC qual (defScope st) s.heap.objs.size f cdv)) → DSs (cxOf (L2N.CX P w) P w K mg base N qual (defScope st) f cdv A outer s H E) (WofE E) (defBody st) b) :
    FnOk P w K mg base (L2N.CX P w) (k + 1) f fd ps (spX K ps.length (runF N.length b)) := by
  obtain ⟨dV, oc, od, kV, doc, pm, an, cdv, ct, osl, rfl, look, hcode⟩ := F.ex
  refine fn_of look hcode S (fun vs H Q E h => by obtain ⟨_, _, _, _, h, _⟩ := h; exact h) (fun A outer s H vs Q E hr h => ?_)
  obtain ⟨t, p, q⟩ := hb _ A outer s H E hr
  exact ⟨t, p, bodyN S q h⟩
end
/-! calls -/
/-- f(..) with its last arguments left out: these are flat values -/
@[simp] def eCallXD (n : Nat) (F : List D → Mu → Res D) (dv : List D) (fa : AF) : EF := fun ρ μ => (fa ρ μ).bind fun ds μ1 => if ds.length + dv.length = n then F (ds ++ dv) μ1 else .fail
@[simp] def eCallMD (n : Nat) (F : List D → Mu → Res D) (dv : List D) (fa : AF) : EF := fun ρ μ => (fa ρ μ).bind fun ds μ1 => if ds.length + dv.length = n then (match F (ds ++ dv) μ1 with
  | .val d μ2 => .val d μ2
  | _ => .fail) else .fail
/-- default values: flat -/
def flD : D → Bool
  | .int _ => true
  | .non => true
  | .bl _ => true
  | .str _ => true
  | _ => false
def flDV : D → V
  | .int i => .int i
  | .bl b => .bl b
  | .str s => .str s
  | _ => .non
theorem flD_rp {K : PySem.W.Frag} {S : Hp} {ad : Ad} {d : D} (h : flD d = true) : Rp K S ad (flDV d) d := by
  cases d <;> first | (cases h; done) | exact .int _ | exact .non | exact .bl _ | exact .str _
theorem flD_rpL {K : PySem.W.Frag} {S : Hp} {ad : Ad} : ∀ {ds : List D}, ds.all flD = true → RpL K S ad (ds.map flDV) ds
  | [], _ => .nil
  | d :: ds, h => by
    simp only [List.all_cons, Bool.and_eq_true] at h
    exact .cons (flD_rp h.1) (flD_rpL h.2)
theorem rpL_app {K : PySem.W.Frag} {S : Hp} {ad : Ad} : ∀ {vs : List V} {ds : List D} {us : List V} {es : List D}, RpL K S ad vs ds → RpL K S ad us es → RpL K S ad (vs ++ us) (ds ++ es)
  | _, _, _, _, .nil, q => q
  | _, _, _, _, .cons h r, q => .cons h (rpL_app r q)
section
variable {K : PySem.W.Frag} {W : WX}
theorem simE_callXD {n : Nat} {F : List D → Mu → Res D} {dv : List D} {ta : TA} {fa : AF} (hd : dv.all flD = true) (ha : SimA K W ta fa) : SimE K W (tCallSD (spX K n F) (dv.map flDV) (WE W) ta) (eCallXD n F dv fa) := ⟨fun {H0 S0 ad0 tmp ρ μ σ H Q} R k => by
  refine ha.run R ?_
  unfold eCallXD at k
  cases e1 : fa ρ μ with
  | fail => rw [e1] at k; exact k.elim
  | exc x μ1 => rw [e1] at k; exact k
  | val ds μ1 =>
    rw [e1] at k
    simp only [bind_val] at k
    intro vs H1 hl R1
    split at k
    · rename_i hn
      obtain ⟨S, ad, c, r⟩ := R1.args hl
      have r2 := rpL_app r (flD_rpL (K := K) (S := S) (ad := ad) hd)
      refine ⟨S, ad, μ1, ds ++ dv, by rw [List.length_append, List.length_map, hl]; exact hn, by rw [List.length_append]; exact hn, (c.here.tmps (zip_rpL r2)).noslots, ?_⟩
      cases e2 : F (ds ++ dv) μ1 with
      | fail => rw [e2] at k; exact k.elim
      | exc x μ2 =>
        rw [e2] at k
        rintro cls dd H3 ⟨e4, S3, ad3, c3, q3⟩
        exact k cls dd H3 ⟨e4, S3, ad3, (c.keep c3).tmps fun q mq => (c.keep c3).tm q (by simpa using mq), q3⟩
      | val d μ2 =>
        rw [e2] at k
        rintro v H2 ⟨S2, ad2, c2⟩
        exact k v H2 ⟨S2, ad2, c.keep c2⟩
    · exact k.elim⟩
theorem simE_callMD {n : Nat} {F : List D → Mu → Res D} {dv : List D} {ta : TA} {fa : AF} (hd : dv.all flD = true) (ha : SimA K W ta fa) : SimE K W (tCall (spN K n F) (dv.map flDV) E0 ta) (eCallMD n F dv fa) := ⟨fun {H0 S0 ad0 tmp ρ μ σ H Q} R k => by
  refine ha.run R ?_
  unfold eCallMD at k
  cases e1 : fa ρ μ with
  | fail => rw [e1] at k; exact k.elim
  | exc x μ1 => rw [e1] at k; exact k
  | val ds μ1 =>
    rw [e1] at k
    simp only [bind_val] at k
    intro vs H1 hl R1
    split at k
    · rename_i hn
      obtain ⟨S, ad, c, r⟩ := R1.args hl
      have r2 := rpL_app r (flD_rpL (K := K) (S := S) (ad := ad) hd)
      refine ⟨S, ad, μ1, ds ++ dv, by rw [List.length_append, List.length_map, hl]; exact hn, by rw [List.length_append]; exact hn, (c.here.tmps (zip_rpL r2)).noslots, ?_⟩
      cases e2 : F (ds ++ dv) μ1 with
      | fail => rw [e2] at k; exact k.elim
      | exc x μ2 => rw [e2] at k; exact k.elim
      | val d μ2 =>
        rw [e2] at k
        rintro v H2 ⟨S2, ad2, c2⟩
        exact k v H2 ⟨S2, ad2, c.keep c2⟩
    · exact k.elim⟩
end
section
variable {X : Cx} {W : WX} {ca : Nat → Addr} {e o : Expr} {es : List Expr} {m x : Str} {fo : EF} {fa : AF} {p pos apos : Pos} {i n k : Nat} {F : List D → Mu → Res D} {g : Addr} {fd : FuncData} {ps : List Str} {pl : Sem Bool} {dv : List D} {dvu : List Value}
theorem de_methXN (i : Nat) (c : Cls X.K (ca i)) (hm : Meth X.K (ca i) m g) (tk : L2N.Takes X W) (G : FnOk X.prog X.w X.K X.mg X.base (L2N.CX X.prog X.w) k g fd ps (spX X.K n F)) (hr : Room k X.A) (hb : Binds X.K fd ps []) (ho : DE X W o fo) (ha : DA X W (e :: es) fa)
    (hst : starEach (e :: es) X.env = (false, eval e X.env) :: starEach es X.env := by rfl) (hpl : (backTo pos (starEach es X.env)).any (·.1) = false := by rfl)
    (ht : eval (.Call (.Attribute o m apos) (e :: es) [] pos) X.env = (do
      let ov ← eval o X.env
      standAt apos.atName
      let (f, first) ← holding [ov] (getMethod ov m pl)
      callWith pos f first (backTo pos (starEach (e :: es) X.env)) (backToKw pos (keywordEach [] X.env))) := by rfl) : DE X W (.Call (.Attribute o m apos) (e :: es) [] pos) (eMethX ca i n m F fo fa) :=
  let ⟨_, p1, q1⟩ := ho; let ⟨_, p2, q2⟩ := ha; ⟨_, pe_methE p1 c hm G hr hb (fun σ => passAtN tk σ) p2 hst hpl ht, simE_methX q1 q2⟩
theorem de_methXN0 (i : Nat) (c : Cls X.K (ca i)) (hm : Meth X.K (ca i) m g) (tk : L2N.Takes X W) (G : FnOk X.prog X.w X.K X.mg X.base (L2N.CX X.prog X.w) k g fd ps (spX X.K n F)) (hr : Room k X.A) (hb : Binds X.K fd ps []) (ho : DE X W o fo)
    (ht : eval (.Call (.Attribute o m apos) [] [] pos) X.env = (do
      let ov ← eval o X.env
      standAt apos.atName
      let (f, first) ← holding [ov] (getMethod ov m pl)
      callWith pos f first (backTo pos (starEach [] X.env)) (backToKw pos (keywordEach [] X.env))) := by rfl) : DE X W (.Call (.Attribute o m apos) [] [] pos) (eMethX ca i n m F fo aNil) :=
  let ⟨_, p1, q1⟩ := ho; ⟨_, pe_methE0 p1 c hm G hr hb (fun σ => passAtN tk σ) ht, simE_methX q1 simA_nil⟩
theorem de_callXN (tk : L2N.Takes X W) (G : FnOk X.prog X.w X.K X.mg X.base (L2N.CX X.prog X.w) k g fd ps (spX X.K n F)) (hr : Room k X.A) (hg : Gl X x) (hm : X.mg x = some (.ref g)) (hk : PySem.W.keepIn X.K (.ref g) = true) (hb : Binds X.K fd ps []) (ha : DA X W (e :: es) fa)
    (hdb : (x == ("__debug__" : Str)) = false := by decide) (he : starEach (e :: es) X.env = (false, eval e X.env) :: starEach es X.env := by rfl) (hpl : (backTo pos (starEach es X.env)).any (·.1) = false := by rfl) : DE X W (.Call (.Name x p) (e :: es) [] pos) (eCallX n F fa) :=
  let ⟨_, p1, q1⟩ := ha; ⟨_, pe_callS G hr hg hm hk hb (fun σ => passAtN tk σ) p1 hdb he hpl, simE_callX q1⟩
theorem de_callXND (dv : List D) (hf : dv.all flD = true) (hv : Vals (dv.map flDV) dvu) (tk : L2N.Takes X W) (G : FnOk X.prog X.w X.K X.mg X.base (L2N.CX X.prog X.w) k g fd ps (spX X.K n F)) (hr : Room k X.A) (hg : Gl X x) (hm : X.mg x = some (.ref g)) (hk : PySem.W.keepIn X.K (.ref g) = true) (hb : Binds X.K fd ps dvu) (ha : DA X W (e :: es) fa)
    (hdb : (x == ("__debug__" : Str)) = false := by decide) (he : starEach (e :: es) X.env = (false, eval e X.env) :: starEach es X.env := by rfl) (hpl : (backTo pos (starEach es X.env)).any (·.1) = false := by rfl) : DE X W (.Call (.Name x p) (e :: es) [] pos) (eCallXD n F dv fa) :=
  let ⟨_, p1, q1⟩ := ha; ⟨_, pe_callSD G hr hg hm hk hb hv (fun σ => passAtN tk σ) p1 hdb he hpl, simE_callXD hf q1⟩
theorem de_callMD (dv : List D) (hf : dv.all flD = true) (hv : Vals (dv.map flDV) dvu) (G : FnOk X.prog X.w X.K X.mg X.base CX0 k g fd ps (spN X.K n F)) (hr : Room k X.A) (hg : Gl X x) (hm : X.mg x = some (.ref g)) (hk : PySem.W.keepIn X.K (.ref g) = true) (hb : Binds X.K fd ps dvu) (ha : DA X W (e :: es) fa)
    (hdb : (x == ("__debug__" : Str)) = false := by decide) (he : starEach (e :: es) X.env = (false, eval e X.env) :: starEach es X.env := by rfl) (hpl : (backTo pos (starEach es X.env)).any (·.1) = false := by rfl) : DE X W (.Call (.Name x p) (e :: es) [] pos) (eCallMD n F dv fa) :=
  let ⟨_, p1, q1⟩ := ha; ⟨_, pe_call G hr hg hm hk hb hv pass0 p1 hdb he hpl, simE_callMD hf q1⟩
end
end Dn

/-! Dn23: making that may raise; try .. as; defs called in a suite; isinstance of what is caught; comprehensions there; join, upper. -/
namespace Dn
open PySem PySem.Spec PyProof.Rows L2 HotX
open L2H (HotC Hot1 RoomH PinOk cxH inv_startH)
/-! making that may raise -/
section
variable {X : Cx} {CX : CXT} {k : Nat} {f C : Addr} {fd : FuncData} {ps : List Str} {sp : Sp} {E : L2.St → XK} {x : Str} {p pos : Pos} {e : Expr} {es : List Expr} {t : TA}
def tMakeS (C : Addr) (sp : Sp) (E : L2.St → XK) (ta : TA) : TE := fun σ H Q => ta σ H fun vs H1 => ∀ x dx, H1 x = none → H1 dx = none → dx ≠ x → sp (.ref x :: vs) (upd (upd H1 dx (.own x)) x (.ins C dx [])) (fun v H2 => v = .non ∧ Q (.ref x) H2) (E σ)
theorem run_makeS {pins : List (Addr × Obj)} {σ : L2.St} {H : Hp} {s : Shared} {Q : VK} {us : List Value} {vs : List V} (M : Mk X.K C f) (F : FnOk X.prog X.w X.K X.mg X.base CX k f fd ps sp) (hr : Room (k + 1) X.A) (hb : Binds X.K fd ps [])
    (hx : PassesAt CX X σ (E σ)) (I : Inv X pins σ H s) (r : Vals vs us)
    (h : ∀ x dx, H x = none → H dx = none → dx ≠ x → sp (.ref x :: vs) (upd (upd H dx (.own x)) x (.ins C dx [])) (fun v H2 => v = .non ∧ Q (.ref x) H2) (E σ)) :
    wpAny (model X.prog X.w) X.A (call (.ref C) us) (EP X pins σ Q) X.xe s := by
  have hq := h (s.heap.objs.size + 1) s.heap.objs.size (I.hok.fresh (Nat.le_succ _)) (I.hok.fresh (Nat.le_refl _)) (Nat.ne_of_lt (Nat.lt_succ_self _))
  have I2 := Inv.made (C := C) I
  have r2 : Vals (V.ref (s.heap.objs.size + 1) :: vs) (Value.ref (s.heap.objs.size + 1) :: us) := .cons rfl r
  have hl : ((Value.ref (s.heap.objs.size + 1) :: us) ++ []).length = ps.length := by
    have e := r2.length
    rw [F.len _ _ _ _ hq] at e
    rw [List.append_nil]
    exact e.symm
  have b := hb _ (Value.ref (s.heap.objs.size + 1) :: us) I2.kIn hl
  rw [List.append_nil] at b
  refine wpAny_call (make_map (f := f) I.kIn M.makes M.init (beq_iff_eq.mp M.fn) (codeAny_mono (F.run _ X.stack _ _ ⟨Value.ref (s.heap.objs.size + 1) :: us, []⟩ (Value.ref (s.heap.objs.size + 1) :: us) _ _ (E σ) (hr.make C us [])
    (I2.env0.make C us []) b r2 hq) fun r s' hq' => ?_))
  cases r with
  | error e => exact hx pins _ _ e s' I2 hq'
  | ok fl =>
    cases fl with
    | ret u =>
      obtain ⟨v, H', I3, rv, ev, q3⟩ := I2.after hq'
      subst ev
      exact ⟨rv, ⟨V.ref (s.heap.objs.size + 1), H', I3, rfl, q3⟩⟩
    | next => exact False.elim hq'
    | brk => exact False.elim hq'
    | cont => exact False.elim hq'
theorem pe_makeS (M : Mk X.K C f) (F : FnOk X.prog X.w X.K X.mg X.base CX k f fd ps sp) (hr : Room (k + 1) X.A) (hg : Gl X x) (hm : X.mg x = some (.ref C)) (hb : Binds X.K fd ps []) (hx : ∀ σ, PassesAt CX X σ (E σ))
    (ha : PA X (e :: es) t) (hdb : (x == ("__debug__" : Str)) = false := by decide) (he : starEach (e :: es) X.env = (false, eval e X.env) :: starEach es X.env := by rfl) (hpl : (backTo pos (starEach es X.env)).any (·.1) = false := by rfl) :
    PE X (.Call (.Name x p) (e :: es) [] pos) (tMakeS C sp E t) := by
  refine ⟨fun pins s σ H Q I h => ?_⟩
  refine wpAny_Call_Name_kw (ld_glob I hg hm ?_ hdb)
  refine PySem.W.callWith_K (h₀ := X.base) I.ok.mod.kin M.kp (thn (ha.run pos pins s σ H _ I h) fun us s1 ⟨vs, H1, I1, r, q⟩ => ⟨I1.kIn, ?_⟩) he hpl
  exact run_makeS M F hr hb (hx σ) I1 r q
end
section
variable {K : PySem.W.Frag} {W : WX} {ca : Nat → Addr}
theorem simE_makeX {i n : Nat} {F : List D → Mu → Res D} {ta : TA} {fa : AF} (ha : SimA K W ta fa) : SimE K W (tMakeS (ca i) (spX K n F) (WE W) ta) (eMakeX ca i n F fa) := ⟨fun {H0 S0 ad0 tmp ρ μ σ H Q} R k => by
  refine ha.run R ?_
  unfold eMakeX at k
  cases e1 : fa ρ μ with
  | fail => rw [e1] at k; exact k.elim
  | exc x μ1 => rw [e1] at k; exact k
  | val ds μ1 =>
    rw [e1] at k
    simp only [bind_val] at k
    intro vs H1 hvl R1 x dx hx hd hne
    split at k
    · rename_i hn
      obtain ⟨S, ad, c, r⟩ := R1.args hvl
      obtain ⟨f1, f2, f3⟩ := c.fresh hd
      have cf := c.free (o := .own x) f2 f1 f3
      have hx2 : upd H1 dx (.own x) x = none := by rw [upd_ne (Ne.symm hne)]; exact hx
      have c2 := cf.cell hx2 (o := .ins (ca i) dx []) (x := .ins i (ca i) []) ⟨dx, [], upd_same, rfl, .nil⟩
      have hp : (ad ++ [x])[μ1.length]? = some x := by rw [← c.al, List.getElem?_append_right (Nat.le_refl _)]; simp
      refine ⟨S, ad ++ [x], μ1 ++ [.ins i (ca i) []], .ref μ1.length :: ds, by rw [List.length_cons, hvl]; exact hn, by rw [List.length_cons]; exact hn, (c2.here.tmps (zip_rpL (.cons (.ref hp) (r.mono (Same.refl S) adp_more)))).noslots, ?_⟩
      cases e3 : F (.ref μ1.length :: ds) (μ1 ++ [.ins i (ca i) []]) with
      | fail => rw [e3] at k; exact k.elim
      | exc x μ3 =>
        rw [e3] at k
        rintro cls dd H3 ⟨e4, S3, ad3, c3, q3⟩
        exact k cls dd H3 ⟨e4, S3, ad3, (c2.keep c3).tmps fun q mq => (c2.keep c3).tm q (by simpa using mq), q3⟩
      | val z μ3 =>
        rw [e3] at k
        rintro u H3 ⟨S3, ad3, c3⟩
        cases z <;> first | exact k.elim | skip
        have rz := c3.hd
        cases rz
        exact ⟨rfl, k _ H3 ⟨S3, ad3, (c2.keep c3.pop).push (.ref (c3.adp _ _ hp))⟩⟩
    · exact k.elim⟩
theorem de_makeXN {X : Cx} {e : Expr} {es : List Expr} {x : Str} {p pos : Pos} {n k : Nat} {F : List D → Mu → Res D} {g : Addr} {fd : FuncData} {ps : List Str} {fa : AF} (i : Nat) (M : Mk X.K (ca i) g) (tk : L2N.Takes X W) (G : FnOk X.prog X.w X.K X.mg X.base (L2N.CX X.prog X.w) k g fd ps (spX X.K n F)) (hr : Room (k + 1) X.A) (hg : Gl X x) (hm : X.mg x = some (.ref (ca i))) (hb : Binds X.K fd ps []) (ha : DA X W (e :: es) fa)
    (hdb : (x == ("__debug__" : Str)) = false := by decide) (he : starEach (e :: es) X.env = (false, eval e X.env) :: starEach es X.env := by rfl) (hpl : (backTo pos (starEach es X.env)).any (·.1) = false := by rfl) : DE X W (.Call (.Name x p) (e :: es) [] pos) (eMakeX ca i n F fa) :=
  let ⟨_, p1, q1⟩ := ha; ⟨_, pe_makeS M G hr hg hm hb (fun σ => passAtN tk σ) p1 hdb he hpl, simE_makeX q1⟩
end
/-! what all addresses agree on -/
open Classical in
noncomputable def pickO {α : Type} [Inhabited α] (f : α → Out) : Out := if h : ∃ o, ∀ a, f a = o then h.choose else .fail
theorem pickO_eq {α : Type} [Inhabited α] {f : α → Out} {o : Out} (h : ∀ a, f a = o) : pickO f = o := by
  have e : ∃ o, ∀ a, f a = o := ⟨o, h⟩
  unfold pickO
  rw [dif_pos e, ← e.choose_spec default]
  exact h default
@[simp] theorem pickO_const {α : Type} [Inhabited α] (o : Out) : pickO (fun _ : α => o) = o := pickO_eq fun _ => rfl
/-- what a suite knows of what is caught: the number of its class, its dict -/
structure XI where
  ix : Nat
  dd : Option Addr
instance (n : Nat) : OfNat XI n := ⟨⟨n, none⟩⟩
@[simp] def xiD (i : Nat) (fs : List (Str × D)) (dd : Addr) : XI := match fs with
  | [] => ⟨i, none⟩
  | _ :: _ => ⟨i, some dd⟩
@[simp] def slotD (fs : List (Str × D)) (a dd : Addr) : D := match fs with
  | [] => .raw (.ref a)
  | f :: r => .exn a dd (f.1 :: r.map (·.1)) (f.2 :: r.map (·.2))
theorem xiD_ix (i : Nat) (fs : List (Str × D)) (dd : Addr) : (xiD i fs dd).ix = i := by cases fs <;> rfl
theorem slotD_at {K : PySem.W.Frag} {S : Hp} {ad : Ad} {i : Nat} {fs : List (Str × D)} {dd : Option Addr} (a : Addr) (h : (fs = [] ∧ dd = none) ∨ fs ≠ [] ∧ ∃ (d : Addr) (ws : List (Str × V)), dd = some d ∧ S d = some (.xd ws) ∧ ws.map (·.1) = fs.map (·.1) ∧ RpL K S ad (ws.map (·.2)) (fs.map (·.2))) :
    ∃ d : Addr, dd = (xiD i fs d).dd ∧ Rp K S ad (.ref a) (slotD fs a d) := by
  rcases h with ⟨h1, h2⟩ | ⟨h1, d, ws, h2, h3, h4, h5⟩
  · subst h1
    exact ⟨0, h2, .raw _⟩
  · cases fs with
    | nil => exact absurd rfl h1
    | cons f r => exact ⟨d, h2, .exn h3 h4 h5⟩
theorem pickO_at {α : Type} [Inhabited α] {f : α → Out} (h : pickO f ≠ .fail) (a : α) : f a = pickO f := by
  unfold pickO at h ⊢
  by_cases e : ∃ o, ∀ a, f a = o
  · rw [dif_pos e]; exact e.choose_spec a
  · rw [dif_neg e] at h; exact absurd rfl h
/-! try .. except C as x -/
@[simp] def offO (i : Nat) : Out → Out
  | .nx ρ μ => .nx (ρ.set i none) μ
  | .bk ρ μ => .bk (ρ.set i none) μ
  | .ct ρ μ => .ct (ρ.set i none) μ
  | .ret d μ => .ret d μ
  | _ => .fail
noncomputable def sTryAs (ca : Nat → Addr) (tbl : Nat → Option Bool) (i : Nat) (b : SF) (s : Addr → XI → SF) : SF := fun ρ μ => match b ρ μ with
  | .exc x ρ1 μ1 => if x.cls = .ref (ca x.ix) then (match tbl x.ix with
    | some true => pickO fun p : Addr × Addr => offO i (s p.1 (xiD x.ix x.fs p.2) (ρ1.set i (some (slotD x.fs p.1 p.2))) μ1)
    | some false => .exc x ρ1 μ1
    | none => .fail) else .fail
  | o => o
section
variable {X : Cx} {W : WX} {ca : Nat → Addr} {x n : Str} {c i : Nat} {body suite : List Stmt} {b₀ : Stmt} {np pos pos' : Pos} {fb : SF} {fs : Addr → XI → SF} {tbl : Nat → Option Bool}
theorem ds_tryAs (hs : X.stack = X.env :: X.outer) (hf : X.env.frame = some X.env.locals) (hN : X.N.Nodup) (hi : X.N[i]? = some n) (hln : X.env.kindOf n = some .local) (hc : Names X x (.ref (ca c))) (tk : L2N.Takes X W) (ht : ∀ j b, tbl j = some b → PySem.W.exmOne X.K (.ref (ca j)) (.ref (ca c)) = some b)
    (hb : ∀ (W' : WX) (pn : List (Addr × Obj)) (xe : Value → Shared → Prop), L2N.Takes (X.tr pn xe) W' → PassesOwn (model X.prog X.w) X.A X.env xe → DSs (X.tr pn xe) W' body fb)
    (hsu : ∀ (a : Addr) (oe : Obj) (j : XI) (pn : List (Addr × Obj)), tbl j.ix = some true → L2N.Zn (.ref (ca j.ix)) j.dd oe → (∃ vs, oe.data = .fields vs) → DSs (X.suite a ((a, oe) :: pn)) W0 (b₀ :: suite) (fs a j)) :
    DS X W (.Try body [.ExceptHandler (some (.Name x np)) (some n) (b₀ :: suite) pos'] [] [] pos) (sTryAs ca tbl i fb fs) := by
  refine ⟨_, L2N.ps_try_as (tb := fun W' => canS X.K W' fb) (ts := fun a cls d => fun E σ H => ∃ j : XI, tbl j.ix = some true ∧ cls = .ref (ca j.ix) ∧ d = j.dd ∧ canS X.K W0 (fs a j) E σ H) (Wout := W) hs hf hN hi hln hc tk (fun W' pn xe tk' hp => (hb W' pn xe tk' hp).can)
    (fun a oe cls d pn hz hv => ⟨fun pins s σ H E I ⟨j, hj, e1, e2, h⟩ => by
      subst e1 e2
      exact (hsu a oe j pn hj hz hv).can.run pins s σ H E I h⟩), ⟨fun {H0 S0 ad0 tmp ρ μ σ H E} R k => ?_⟩⟩
  refine ⟨H0, S0, ad0, tmp, ρ, μ, R, ?_⟩
  unfold sTryAs at k
  cases e1 : fb ρ μ with
  | nx ρ1 μ1 => rw [e1] at k; exact k
  | ret d μ1 => rw [e1] at k; exact k
  | bk ρ1 μ1 => rw [e1] at k; exact k
  | ct ρ1 μ1 => rw [e1] at k; exact k
  | fail => rw [e1] at k; exact k
  | exc z ρ1 μ1 =>
    rw [e1] at k
    simp only at k
    intro cls dd σ1 H1 RX
    split at k
    · rename_i hcl
      split at k
      · rename_i hb1
        refine ⟨true, by rw [RX.1, hcl]; exact ht _ _ hb1, fun _ a na => ?_, fun z => Bool.noConfusion z⟩
        obtain ⟨ec, S, ad, cc, qd⟩ := RX
        obtain ⟨d0, ed, rp⟩ := slotD_at (i := z.ix) a qd
        have hnf : (pickO fun p : Addr × Addr => offO i (fs p.1 (xiD z.ix z.fs p.2) (ρ1.set i (some (slotD z.fs p.1 p.2))) μ1)) ≠ .fail := fun e => by rw [e] at k; exact k.elim
        have he := pickO_at hnf (a, d0)
        rw [← he] at k
        refine ⟨xiD z.ix z.fs d0, by rw [xiD_ix]; exact hb1, by rw [xiD_ix]; exact ec.trans hcl, ed, H0, S0, ad0, tmp, ρ1.set i (some (slotD z.fs a d0)), μ1, ⟨S, ad, cc.setv rp i⟩, ?_⟩
        dsimp only at k
        cases e2 : fs a (xiD z.ix z.fs d0) (ρ1.set i (some (slotD z.fs a d0))) μ1 with
        | exc _ _ _ => rw [e2] at k; exact k.elim
        | fail => rw [e2] at k; exact k.elim
        | ret d μ2 => rw [e2] at k; exact k
        | nx ρ2 μ2 => rw [e2] at k; exact fun σ2 H2 ⟨S2, ad2, c2⟩ => k _ _ ⟨S2, ad2, c2.wipe [i]⟩
        | bk ρ2 μ2 => rw [e2] at k; exact fun σ2 H2 ⟨S2, ad2, c2⟩ => k _ _ ⟨S2, ad2, c2.wipe [i]⟩
        | ct ρ2 μ2 => rw [e2] at k; exact fun σ2 H2 ⟨S2, ad2, c2⟩ => k _ _ ⟨S2, ad2, c2.wipe [i]⟩
      · rename_i hb1
        exact ⟨false, by rw [RX.1, hcl]; exact ht _ _ hb1, fun z => Bool.noConfusion z, fun _ => k _ _ _ _ RX⟩
      · exact k.elim
    · exact k.elim
end
end Dn

/-! Dn24: defs called in a suite (FnE); isinstance of what is caught; comprehensions there; join, upper. -/
namespace Dn
open PySem PySem.Spec PyProof.Rows L2 HotX
open L2H (HotC Hot1 RoomH PinOk cxH inv_startH)
/-- in X the exception at a, of the class i, is handled -/
def HotE (ca : Nat → Addr) (X : Cx) (a : Addr) (i : XI) : Prop := ∃ oe : Obj, Hot1 X.A (a, oe) ∧ (a, oe) ∈ X.pn ∧ L2N.Zn (.ref (ca i.ix)) i.dd oe
theorem HotE.hotC {ca : Nat → Addr} {X : Cx} {a : Addr} {i : XI} (h : HotE ca X a i) : HotC X := let ⟨oe, h1, h2, _⟩ := h; ⟨(a, oe), h1, h2⟩
theorem hotE_suite {ca : Nat → Addr} {X : Cx} {a : Addr} {i : XI} {oe : Obj} {pn : List (Addr × Obj)} (hz : L2N.Zn (.ref (ca i.ix)) i.dd oe) (hv : ∃ vs, oe.data = .fields vs) : HotE ca (X.suite a ((a, oe) :: pn)) a i := by
  obtain ⟨vs, e⟩ := hv
  exact ⟨oe, ⟨rfl, vs, e, hz.2.2 vs e⟩, List.mem_cons_self, hz⟩
/-- what a def promises that is called there -/
structure FnE (P : Program) (w : World) (K : PySem.W.Frag) (mg : Str → Option Value) (base : Heap) (ca : Nat → Addr) (k : Nat) (f : Addr) (fd : FuncData) (ps : List Str) (sp : Addr → XI → Sp) : Prop where
  len : ∀ a i vs H Q E, sp a i vs H Q E → vs.length = ps.length
  run : ∀ (A : Around) (outer : List Env) (s : Shared) (H : Hp) (args : Args) (us : List Value) (vs : List V) (Q : VK) (E : XK) (a : Addr) (oe : Obj) (i : XI), RoomH k A → Hot1 A (a, oe) → L2N.Zn (.ref (ca i.ix)) i.dd oe → PinOk outer H s (a, oe) → Env0 P w K mg base A outer s H → BindsTo s fd args (ps.zip us) → Vals vs us → sp a i vs H Q E →
    codeAny (model P w) A (.call (.ref f) args) (CR CX0 outer P w H s Q E) s
section
variable {P : Program} {w : World} {K : PySem.W.Frag} {mg : Str → Option Value} {base : Heap} {ca : Nat → Addr} {N ps : List Str} {k : Nat} {b : Addr → XI → SF} {x qual : Str} {st : Stmt} {f : Addr} {fd : FuncData}
theorem bodyE {b : SF} {t : TS} {vs : List V} {Q : VK} {H : Hp} {E : XK} (S : FnScope N ps (defScope st)) (q : SimS K W0 t b) (h : spN K ps.length (runF N.length b) vs H Q E) : t { nx := fun _ H' => Q .non H', rt := Q } (L2.start N vs) H := by
  obtain ⟨S1, ad, μ, ds, hl, hd, c, k⟩ := h
  refine q.run ⟨S1, ad, c.start (N := N) (by rw [hl, hd]) (by
    have := congrArg List.length S.pre
    rw [List.length_take] at this
    omega)⟩ ?_
  unfold runF at k
  cases e : b (ds.map some ++ List.replicate (N.length - ds.length) none) μ with
  | ret d μ' => rw [e] at k; exact fun v ρ σ H R => k v H R.noslots
  | nx ρ μ' => rw [e] at k; exact fun σ H R => k .non H (R.noslots.flat flat_non)
  | exc x ρ μ' => rw [e] at k; exact k.elim
  | bk ρ μ' => rw [e] at k; exact k.elim
  | ct ρ μ' => rw [e] at k; exact k.elim
  | fail => rw [e] at k; exact k.elim
theorem fnE (F : Fun K x qual st f fd) (S : FnScope N ps (defScope st))
    (hb : ∀ (cdv : Value) (A : Around) (outer : List Env) (s : Shared) (H : Hp) (E : XK) (a : Addr) (oe : Obj) (i : XI), HotE ca (cxH CX0 P w K mg base N qual (defScope st) f cdv A outer s H E (a, oe)).nox a i → RoomH k (A.deeper (envOfC qual (defScope st) s.heap.objs.size f cdv)) →
      DSs (cxH CX0 P w K mg base N qual (defScope st) f cdv A outer s H E (a, oe)).nox W0 (defBody st) (b a i)) :
    FnE P w K mg base ca (k + 1) f fd ps (fun a i => spN K ps.length (runF N.length (b a i))) := by
  refine ⟨fun a i vs H Q E h => by obtain ⟨_, _, _, _, h, _⟩ := h; exact h, fun A outer s H args us vs Q E a oe i hr hot hz hpin e0 hbd r hsp => ?_⟩
  obtain ⟨oc, od, kV, doc, pm, an, cdv, ct, osl, rfl, look, hcode⟩ := F.ex
  have hl : vs.length = ps.length := by obtain ⟨_, _, _, _, h, _⟩ := hsp; exact h
  have KX : K.In s.heap := e0.mod.kin.keeps fun b o e => (e0.bs b o e).1
  have lim : s.heap.NoLimit := e0.mod.nolimit.keeps fun b o e => (e0.bs b o e).1
  have hkind : ∀ y ∈ ps.zip us, (defScope st).names.lookup y.1 = some .local ∨ ((defScope st).names.lookup y.1 = some .cell ∧ ((cellsFrom (s.heap.objs.size + 1) (defScope st).names []).lookup y.1).isSome = true) := fun ⟨n, v⟩ hy => by
    rcases S.par n (List.of_mem_zip hy).1 with q | q
    · exact .inl q
    · exact .inr ⟨q, PySem.W.cellsFrom_some _ _ _ (.inl q)⟩
  refine codeAny_call_function hr.depth (KX _ _ look) rfl S.co S.gen rfl (PySem.W.codeRec_of KX hcode) (hbd _ _ _ _ ?_)
  refine wpAny_newFunctionEnv_cells S.kind hkind fun env he s1 x => ?_
  subst he
  refine ⟨lim.keeps x.toInCall.keep, codeAny_func ?_⟩
  obtain ⟨t, ht, hq⟩ := hb cdv A outer s H E a oe i ⟨oe, hot, List.mem_cons_self, hz⟩ (hr.deeper _)
  have I : Inv (cxH CX0 P w K mg base N qual (defScope st) f cdv A outer s H E (a, oe)) [] (L2.start N vs) H s1 := inv_startH S hpin e0 hl r x
  refine wpAny_mono (ht.nox.run [] s1 (L2.start N vs) H _ I (bodyE S hq hsp)) (fun fl s' hs => ?_) fun e s' hs => hs
  have fin : ∀ {σ' : L2.St} {H' : Hp} {v : V} {u : Value}, Inv (cxH CX0 P w K mg base N qual (defScope st) f cdv A outer s H E (a, oe)) [] σ' H' s' → RelV v u → Q v H' → CE outer P w H s Q u s' :=
    fun {σ' H' v u} J rv q => ⟨v, H', J.os, J.bare, J.base, J.hok, rv, q⟩
  cases fl with
  | ret u =>
    obtain ⟨v, σ', H', J, rv, q⟩ := hs
    exact fin J rv q
  | next =>
    obtain ⟨σ', H', J, q⟩ := hs
    exact fin (v := V.non) (u := Value.none) J rfl q
  | brk =>
    obtain ⟨_, _, _, q⟩ := hs
    exact False.elim q
  | cont =>
    obtain ⟨_, _, _, q⟩ := hs
    exact False.elim q
end
section
variable {X : Cx} {ca : Nat → Addr} {k : Nat} {f C : Addr} {fd : FuncData} {ps : List Str} {sp : Addr → XI → Sp} {x m : Str} {q pos apos : Pos} {e o : Expr} {es : List Expr} {ta : TE} {t : TA} {a : Addr} {i : XI}
theorem run_fnE {pins : List (Addr × Obj)} {σ : L2.St} {H : Hp} {s : Shared} {Q : VK} {us : List Value} {vs : List V} (F : FnE X.prog X.w X.K X.mg X.base ca k f fd ps sp) (hr : RoomH k X.A) (hc : HotE ca X a i) (hb : Binds X.K fd ps [])
    (I : Inv X pins σ H s) (r : Vals vs us) (h : sp a i vs H Q E0) : wpAny (model X.prog X.w) X.A (call (.ref f) us) (EP X pins σ Q) X.xe s := by
  obtain ⟨oe, hot, hp, hz⟩ := hc
  have hl : us.length = ps.length := by rw [← r.length]; exact F.len _ _ _ _ _ _ h
  have b := hb s us I.kIn (by rw [List.append_nil]; exact hl)
  rw [List.append_nil] at b
  have P1 := I.pin (a, oe) (List.mem_append_left _ hp)
  have hpin : PinOk X.stack H s (a, oe) := ⟨P1.1, P1.2.1, fun hm => (List.mem_cons.mp (I.stkSub a hm)).elim P1.2.2.1 P1.2.2.2.1, P1.2.2.2.2⟩
  refine wpAny_call (codeAny_mono (F.run X.A X.stack s H ⟨us, []⟩ us vs Q E0 a oe i hr hot hz hpin I.env0 b r h) fun r s' hq => ?_)
  cases r with
  | error e => exact hq.elim
  | ok fl =>
    cases fl with
    | ret u => exact I.after hq
    | next => exact False.elim hq
    | brk => exact False.elim hq
    | cont => exact False.elim hq
theorem pe_callE (F : FnE X.prog X.w X.K X.mg X.base ca k f fd ps sp) (hr : RoomH k X.A) (hc : HotE ca X a i) (hg : Gl X x) (hm : X.mg x = some (.ref f)) (hk : PySem.W.keepIn X.K (.ref f) = true) (hb : Binds X.K fd ps [])
    (ha : PA X (e :: es) t) (hdb : (x == ("__debug__" : Str)) = false := by decide) (he : starEach (e :: es) X.env = (false, eval e X.env) :: starEach es X.env := by rfl) (hpl : (backTo pos (starEach es X.env)).any (·.1) = false := by rfl) :
    PE X (.Call (.Name x q) (e :: es) [] pos) (tCall (sp a i) [] E0 t) := by
  refine ⟨fun pins s σ H Q I h => ?_⟩
  refine wpAny_Call_Name_kw (ld_glob I hg hm ?_ hdb)
  refine PySem.W.callWith_K (h₀ := X.base) I.ok.mod.kin hk (thn (ha.run pos pins s σ H _ I h) fun us s1 ⟨vs, H1, I1, r, q⟩ => ⟨I1.kIn, ?_⟩) he hpl
  simp only [List.append_nil] at q
  exact run_fnE F hr hc hb I1 r q
end
section
variable {X : Cx} {W : WX} {ca : Nat → Addr} {x : Str} {p pos : Pos} {e : Expr} {es : List Expr} {fa : AF} {n k : Nat} {F : Addr → XI → List D → Mu → Res D} {g : Addr} {fd : FuncData} {ps : List Str} {a : Addr} {i : XI}
theorem de_callE (G : FnE X.prog X.w X.K X.mg X.base ca k g fd ps (fun a i => spN X.K n (F a i))) (hr : RoomH k X.A) (hc : HotE ca X a i) (hg : Gl X x) (hm : X.mg x = some (.ref g)) (hk : PySem.W.keepIn X.K (.ref g) = true) (hb : Binds X.K fd ps []) (ha : DA X W (e :: es) fa)
    (hdb : (x == ("__debug__" : Str)) = false := by decide) (he : starEach (e :: es) X.env = (false, eval e X.env) :: starEach es X.env := by rfl) (hpl : (backTo pos (starEach es X.env)).any (·.1) = false := by rfl) : DE X W (.Call (.Name x p) (e :: es) [] pos) (eCallM n (F a i) fa) :=
  let ⟨_, p1, q1⟩ := ha; ⟨_, pe_callE G hr hc hg hm hk hb p1 hdb he hpl, simE_callM q1⟩
end
/-! isinstance of what is caught -/
@[simp] def gIsE (ca : Nat → Addr) (a : Addr) (i : XI) (j : Nat) (tb : List (Nat × Bool)) : List D → Mu → Res D := fun ds μ => match ds with
  | [.raw (.ref a'), .raw (.ref C)] => (match tb.lookup i.ix with
    | some b => if a' = a ∧ i.dd = none ∧ C = ca j then .val (.bl b) μ else .fail
    | none => .fail)
  | [.exn a' d _ _, .raw (.ref C)] => (match tb.lookup i.ix with
    | some b => if a' = a ∧ i.dd = some d ∧ C = ca j then .val (.bl b) μ else .fail
    | none => .fail)
  | _ => .fail
@[simp] def gIsET (a : Addr) (i : XI) (T : String) (tb : List (Nat × Bool)) : List D → Mu → Res D := fun ds μ => match ds with
  | [.raw (.ref a'), .raw (.ty T')] => (match tb.lookup i.ix with
    | some b => if a' = a ∧ i.dd = none ∧ T' = T then .val (.bl b) μ else .fail
    | none => .fail)
  | [.exn a' d _ _, .raw (.ty T')] => (match tb.lookup i.ix with
    | some b => if a' = a ∧ i.dd = some d ∧ T' = T then .val (.bl b) μ else .fail
    | none => .fail)
  | _ => .fail
/-- the dict of what is caught, if it has one, is there -/
def DdOk (i : XI) (H : Hp) : Prop := i.dd = none ∨ ∃ (d : Addr) (fs : List (Str × V)), i.dd = some d ∧ H d = some (.xd fs)
def rIsX (K : PySem.W.Frag) (C : Addr) (i : XI) (a : Addr) : List V → Hp → VK → Prop := fun xs H Q => ExcC K C ∧ DdOk i H ∧ rIsE K C a xs H Q
section
variable {X : Cx} {W : WX} {ca : Nat → Addr} {a : Addr} {i : XI}
theorem cls_is {K : PySem.W.Frag} {C : Addr} (h : PySem.W.hasDictIn K C = true) : (PySem.W.clsIn K C).isSome = true := by
  unfold PySem.W.hasDictIn at h
  cases e : PySem.W.clsIn K C with
  | none => rw [e] at h; cases h
  | some _ => rfl
theorem call_isHE {C : Addr} (hc : ∃ oe : Obj, (a, oe) ∈ X.pn ∧ L2N.Zn (.ref C) i.dd oe ∧ ∃ vs, oe.data = .fields vs) : CallR X (.builtin "isinstance") (rIsX X.K C i a) := by
  obtain ⟨oe, hp, hz, vs, hv⟩ := hc
  intro pins s σ H xs us Q I r h
  obtain ⟨EC, hd, c, cv, b, rfl, hcv, e, q⟩ := h
  obtain ⟨u1, u2, rfl, r1, r2⟩ := vals2 r
  obtain rfl : u1 = Value.ref a := r1
  obtain rfl := hcv _ r2
  have hget := (I.pin (a, oe) (List.mem_append_left _ hp)).1
  have J : ∃ od, PySem.W.InstAt s.heap a oe C od := by
    rcases hd with hd | ⟨d, fs, hd, hH⟩
    · refine ⟨none, hget, hz.1, by unfold PySem.W.notCls; rw [hv] <;> rfl, ?_⟩
      rw [hz.2.1, hd]
      exact trivial
    · have hx : ObjOk X.prog X.w H s.heap d (.xd fs) := I.hok d _ hH
      obtain ⟨mA, hns, hr⟩ := hx
      obtain ⟨od, ho, hl⟩ := lookIn_ns hns
      exact ⟨some od, hget, hz.1, by unfold PySem.W.notCls; rw [hv] <;> rfl, by rw [hz.2.1, hd]; exact ho⟩
  obtain ⟨od, J⟩ := J
  exact PySem.W.kia_one (PySem.W.kitx_exc (cls_is EC.hd) EC.hg EC.hk EC.hs EC.ha EC.hn EC.ht EC.hm) I.kIn J e (fun z => nomatch z) fun tk => ⟨.bl b, H, I.kept (t' := tk) fun _ _ z => z, rfl, q⟩
theorem simC_isE {K : PySem.W.Frag} {j : Nat} {tb : List (Nat × Bool)} (h : ∀ i b, tb.lookup i = some b → ExcC K (ca i) ∧ PySem.W.kitOne K (.ref (ca i)) (.ref (ca j)) = some b) : SimC K W (rIsX K (ca i.ix) i a) (gIsE ca a i j tb) := ⟨fun {H0 S0 ad0 tmp ρ μ σ H Q xs ds} hl R k => by
  obtain ⟨S, ad, c, r⟩ := R.args hl
  unfold gIsE at k
  split at k
  · obtain ⟨v1, v2, rfl, r1, r2⟩ := rpL2 r
    cases r1
    cases r2
    split at k
    · rename_i b hb
      split at k
      · rename_i hh
        obtain ⟨rfl, hd, rfl⟩ := hh
        exact ⟨(h _ b hb).1, .inl hd, _, _, b, rfl, fun u ru => ru, (h _ b hb).2, k _ _ (c.flat (flat_bl _))⟩
      · exact k.elim
    · exact k.elim
  · obtain ⟨v1, v2, rfl, r1, r2⟩ := rpL2 r
    cases r2
    cases r1 with
    | exn h1 h2 h3 =>
      split at k
      · rename_i b hb
        split at k
        · rename_i hh
          obtain ⟨rfl, hd, rfl⟩ := hh
          exact ⟨(h _ b hb).1, .inr ⟨_, _, hd, c.sh _ _ h1⟩, _, _, b, rfl, fun u ru => ru, (h _ b hb).2, k _ _ (c.flat (flat_bl _))⟩
        · exact k.elim
      · exact k.elim
  · exact k.elim⟩
theorem simC_isET {K : PySem.W.Frag} {T : String} {tb : List (Nat × Bool)} (h : ∀ i b, tb.lookup i = some b → ExcC K (ca i) ∧ PySem.W.kitOne K (.ref (ca i)) (.type T) = some b) : SimC K W (rIsX K (ca i.ix) i a) (gIsET a i T tb) := ⟨fun {H0 S0 ad0 tmp ρ μ σ H Q xs ds} hl R k => by
  obtain ⟨S, ad, c, r⟩ := R.args hl
  unfold gIsET at k
  split at k
  · obtain ⟨v1, v2, rfl, r1, r2⟩ := rpL2 r
    cases r1
    cases r2
    split at k
    · rename_i b hb
      split at k
      · rename_i hh
        obtain ⟨rfl, hd, rfl⟩ := hh
        exact ⟨(h _ b hb).1, .inl hd, _, _, b, rfl, fun u ru => ru, (h _ b hb).2, k _ _ (c.flat (flat_bl _))⟩
      · exact k.elim
    · exact k.elim
  · obtain ⟨v1, v2, rfl, r1, r2⟩ := rpL2 r
    cases r2
    cases r1 with
    | exn h1 h2 h3 =>
      split at k
      · rename_i b hb
        split at k
        · rename_i hh
          obtain ⟨rfl, hd, rfl⟩ := hh
          exact ⟨(h _ b hb).1, .inr ⟨_, _, hd, c.sh _ _ h1⟩, _, _, b, rfl, fun u ru => ru, (h _ b hb).2, k _ _ (c.flat (flat_bl _))⟩
        · exact k.elim
      · exact k.elim
  · exact k.elim⟩
end
section
variable {X : Cx} {W : WX} {ca : Nat → Addr} {a : Addr} {i : XI} {e : Expr} {fe : EF} {p pos p2 : Pos}
theorem de_isE {C : Str} (hE : HotE ca X a i) (j : Nat) (tb : List (Nat × Bool)) (h : ∀ i b, tb.lookup i = some b → ExcC X.K (ca i) ∧ PySem.W.kitOne X.K (.ref (ca i)) (.ref (ca j)) = some b) (hg : Gl X "isinstance") (hm : X.mg "isinstance" = none)
    (hgC : Gl X C) (hmC : X.mg C = some (.ref (ca j))) (he : DE X W e fe) (hdC : (C == ("__debug__" : Str)) = false := by decide)
    (hs : starEach [e, .Name C p2] X.env = (false, eval e X.env) :: starEach [.Name C p2] X.env := by rfl) (hpl : (backTo pos (starEach [.Name C p2] X.env)).any (·.1) = false := by rfl) : DE X W (.Call (.Name "isinstance" p) [e, .Name C p2] [] pos) (eCB (gIsE ca a i j tb) (aCons fe (aCons (eC (.raw (.ref (ca j)))) aNil))) := by
  have hc : DE X W (.Name C p2) (eC (.raw (.ref (ca j)))) := de_glob hgC hmC rfl hdC
  obtain ⟨t, p1, q1⟩ := da_cons he (da_cons hc da_nil) hs
  obtain ⟨oe, ⟨_, vs, hv, _⟩, hp, hz⟩ := hE
  exact ⟨_, pe_callB (id := "isinstance") (call_isHE (C := ca i.ix) (i := i) ⟨oe, hp, hz, vs, hv⟩) hg hm rfl p1 (by decide) (by decide) hs hpl, simE_cb q1 (simC_isE h)⟩
theorem de_isET {C : Expr} {T : String} (hE : HotE ca X a i) (tb : List (Nat × Bool)) (h : ∀ i b, tb.lookup i = some b → ExcC X.K (ca i) ∧ PySem.W.kitOne X.K (.ref (ca i)) (.type T) = some b) (hg : Gl X "isinstance") (hm : X.mg "isinstance" = none)
    (hC : DE X W C (eC (.raw (.ty T)))) (he : DE X W e fe)
    (hs : starEach [e, C] X.env = (false, eval e X.env) :: starEach [C] X.env := by rfl) (hpl : (backTo pos (starEach [C] X.env)).any (·.1) = false := by rfl) (hs2 : starEach [C] X.env = (false, eval C X.env) :: starEach [] X.env := by rfl) : DE X W (.Call (.Name "isinstance" p) [e, C] [] pos) (eCB (gIsET a i T tb) (aCons fe (aCons (eC (.raw (.ty T))) aNil))) := by
  obtain ⟨t, p1, q1⟩ := da_cons he (da_cons hC da_nil hs2) hs
  obtain ⟨oe, ⟨_, vs, hv, _⟩, hp, hz⟩ := hE
  exact ⟨_, pe_callB (id := "isinstance") (call_isHE (C := ca i.ix) (i := i) ⟨oe, hp, hz, vs, hv⟩) hg hm rfl p1 (by decide) (by decide) hs hpl, simE_cb q1 (simC_isET h)⟩
end
/-! walks and comprehensions there -/
def DIg (X : Cx) (W : WX) (tg iter : Expr) (f : AF) : Prop := ∃ wi, PIg X tg iter wi ∧ SimI X.K W wi f
section
variable {X : Cx} {W : WX} {tg iter elt : Expr} {ifs : List Expr} {fe : EF} {fi : AF} {scope : Scope} {own : List (Str × Nat)} {pos spos py : Pos} {g : GT} {ft : TF} {fel : EF} {fin : List D → Mu → Res D}
theorem di_listE (he : DE X W iter fe) : DIg X W tg iter (iSeq fe) := by
  obtain ⟨t, p1, q1⟩ := he
  refine ⟨_, pi_listE p1, ⟨fun {H0 S0 ad0 tmp ρ μ σ H R} r k => ?_⟩⟩
  refine q1.run r ?_
  unfold iSeq at k
  cases e1 : fe ρ μ with
  | fail => rw [e1] at k; exact k.elim
  | exc x μ1 => rw [e1] at k; exact k
  | val d μ1 =>
    rw [e1] at k
    simp only [bind_val] at k
    intro v H1 R1
    split at k
    · rename_i xs
      obtain ⟨S, ad, c, rv⟩ := R1.one
      cases rv with
      | lst hs rr =>
        rename_i a vs
        exact ⟨a, rfl, ⟨vs, .of (c.sh _ _ hs)⟩, k _ [(.ref a, .lst xs)] _ R1 jw_list⟩
    · rename_i ns
      obtain ⟨S, ad, c, rv⟩ := R1.one
      cases rv with
      | scr hs =>
        rename_i a
        exact ⟨a, rfl, ⟨_, c.sh.seq hs⟩, k _ [(.ref a, .scr ns)] _ R1 jw_scr⟩
    · exact k.elim
theorem de_lcE (hfin : FinOk X.K W fin) (hc : X.calm = true ∨ HotC X) (hN : X.N.Nodup) (hi : DIg X W tg iter fi) (ok : BlkOk X.N X.env.scope scope own)
    (hg : ∀ (s : Shared) (H : Hp) (C : Addr) (cl : List (Str × Addr)) (fp : List Addr), EndOk (X.blk s H scope (compEnvC scope cl C X.env) fp) [] → DW1 (X.blk s H scope (compEnvC scope cl C X.env) fp) (own.map (·.2)) tg g) (ht : ∀ (s : Shared) (H : Hp) (C : Addr) (cl : List (Str × Addr)) (fp : List Addr), DTs (X.blk s H scope (compEnvC scope cl C X.env) fp) W0 ifs ft)
    (he : ∀ (s : Shared) (H : Hp) (C : Addr) (cl : List (Str × Addr)) (fp : List Addr), DE (X.blk s H scope (compEnvC scope cl C X.env) fp) W0 elt fel) (hs : ∀ x, foldedSetIterable iter X.env x = pure x := by intro _; rfl) :
    DE X W (.ListComp elt [⟨tg, iter, ifs, 0⟩] scope pos) (eLcG fin fi g ft fel (own.map (·.2))) := by
  obtain ⟨_, p1, q1⟩ := hi
  exact ⟨_, pe_lcE hc hN p1 ok (fun s H C cl fp z => (hg s H C cl fp z).can) (fun s H C cl fp => (ht s H C cl fp).can) (fun s H C cl fp => (he s H C cl fp).can) hs, simE_lc hfin q1 simW_can simT_can simE_can⟩
theorem ds_lcE (i : Nat) {y : Str} (hfin : FinOk X.K W fin) (hc : X.calm = true ∨ HotC X) (hN : X.N.Nodup) (hi : DIg X W tg iter fi) (ok : BlkOk X.N X.env.scope scope own)
    (hg : ∀ (s : Shared) (H : Hp) (C : Addr) (cl : List (Str × Addr)) (fp : List Addr), EndOk (X.blk s H scope (compEnvC scope cl C X.env) fp) [] → DW1 (X.blk s H scope (compEnvC scope cl C X.env) fp) (own.map (·.2)) tg g) (ht : ∀ (s : Shared) (H : Hp) (C : Addr) (cl : List (Str × Addr)) (fp : List Addr), DTs (X.blk s H scope (compEnvC scope cl C X.env) fp) W0 ifs ft)
    (he : ∀ (s : Shared) (H : Hp) (C : Addr) (cl : List (Str × Addr)) (fp : List Addr), DE (X.blk s H scope (compEnvC scope cl C X.env) fp) W0 elt fel)
    (hy : X.N[i]? = some y := by rfl) (hyl : X.env.scope.names.lookup y = some .local := by rfl)
    (hsw : swapsWith (.ListComp elt [⟨tg, iter, ifs, 0⟩] scope pos) (some (.Name y py)) spos.line X.env = pure true := by exact sw_true rfl rfl rfl (by decide +kernel)) (hs : ∀ x, foldedSetIterable iter X.env x = pure x := by intro _; rfl) :
    DS X W (.Assign [.Name y py] (.ListComp elt [⟨tg, iter, ifs, 0⟩] scope pos) spos) (sAsg i (eLcG fin fi g ft fel (own.map (·.2)))) := by
  obtain ⟨_, p1, q1⟩ := hi
  exact ⟨_, ps_setLcE hc hN hy hyl hsw p1 ok (fun s H C cl fp z => (hg s H C cl fp z).can) (fun s H C cl fp => (ht s H C cl fp).can) (fun s H C cl fp => (he s H C cl fp).can) hs, simS_asg (simE_lc hfin q1 simW_can simT_can simE_can) (simG_n i)⟩
end
theorem dw1_tupE {X : Cx} {vs : List Nat} {es : List Expr} {gs : GTs} {pos : Pos} {k : Nat} (n : Nat) (hc : EndOk X []) (h : DW2 X vs es gs) (hn : (assignEach es X.env).length = n := by rfl) (hst : (assignEach es X.env).findIdx? (·.1) = none := by rfl) : DW1 X vs (.Tuple es k pos) (gTp n gs) := by
  obtain ⟨_, p1, q1⟩ := h
  exact ⟨_, pg_tupE hc p1 hn hst, simW_tup q1⟩
/-! join, upper -/
@[simp] def strsD : List D → Option (List Str)
  | [] => some []
  | .str x :: r => (strsD r).map (x :: ·)
  | _ :: _ => none
@[simp] def gJoin : MF := fun d ds μ => match d, ds with
  | .str a, [e] => (match (sqOf e μ).bind strsD with
    | some ys => if (ys.map (·.length)).sum + ys.length * a.length ≤ 16777216 then .val (.str (Txt.join a ys)) μ else .fail
    | none => .fail)
  | _, _ => .fail
@[simp] def gUpper : MF := fun d ds μ => match d, ds with
  | .str a, [] => if a.length ≤ 100000 then .val (.str (Txt.upper a)) μ else .fail
  | _, _ => .fail
section
variable {K : PySem.W.Frag} {S : Hp} {ad : Ad}
theorem strsD_at : ∀ {ds : List D} {vs : List V} {ys : List Str}, RpL K S ad vs ds → strsD ds = some ys → vs = ys.map V.str
  | [], _, _, r, h => by cases r; cases h; rfl
  | d :: ds, _, _, r, h => by
    cases r with
    | cons r1 r2 =>
      cases d <;> simp only [strsD] at h <;> first | cases h | skip
      rw [Option.map_eq_some_iff] at h
      obtain ⟨zs, h1, rfl⟩ := h
      cases r1
      rw [strsD_at r2 h1]
      rfl
end
theorem mo_join {X : Cx} {W : WX} : MtO X W "str.join" gJoin := ⟨_, mt_join, ⟨fun {H0 S0 ad0 tmp ρ μ σ H Q x d xs ds} hl R k => by
  obtain ⟨S, ad, c, rx, ra⟩ := R.margs hl
  unfold gJoin at k
  split at k
  · rename_i a e
    obtain ⟨w, rfl, re⟩ := rpL1 ra
    cases rx
    split at k
    · rename_i ys hy
      rw [Option.bind_eq_some_iff] at hy
      obtain ⟨es, h2, h3⟩ := hy
      split at k
      · rename_i hz
        obtain ⟨b, vs, rfl, q, rr⟩ := sqOf_at c re h2
        rw [strsD_at rr h3] at q
        exact ⟨a, b, ys, rfl, rfl, q, hz, k _ _ (c.flat fun _ _ _ => .str _)⟩
      · exact k.elim
    · exact k.elim
  · exact k.elim⟩⟩
theorem mo_upper {X : Cx} {W : WX} : MtO X W "str.upper" gUpper := ⟨_, mt_upper, ⟨fun {H0 S0 ad0 tmp ρ μ σ H Q x d xs ds} hl R k => by
  obtain ⟨S, ad, c, rx, ra⟩ := R.margs hl
  unfold gUpper at k
  split at k
  · rename_i a
    cases ra
    cases rx
    split at k
    · rename_i hz
      exact ⟨a, rfl, rfl, by omega, k _ _ (c.flat fun _ _ _ => .str _)⟩
    · exact k.elim
  · exact k.elim⟩⟩
end Dn

/-! Dn25: facts of own exception classes; rooms; any thing in a tuple. -/
namespace Dn
open PySem PySem.Spec PyProof.Rows L2
/-- an own exception class (over ValueError, without an own __init__), as raise asks for it -/
structure XrF (K : PySem.W.Frag) (C : Addr) : Prop where
  ex : PySem.W.excIn K C [.type "ValueError", .type "Exception", .type "BaseException", .type "object"] "ValueError.__new__" = true
  kp : PySem.W.keepIn K (.ref C) = true
  sb : PySem.W.subIn K (.ref C) (.type "BaseException") = some true
  ty : PySem.W.typeIn K (.ref C) = some (.type "type")
/-- .. as an except clause asks for it -/
structure XcF (K : PySem.W.Frag) (C : Addr) : Prop where
  sb : PySem.W.subIn K (.ref C) (.type "BaseException") = some true
  hd : PySem.W.hasDictIn K C = true
  ty : PySem.W.typeIn K (.ref C) = some (.type "type")
theorem XcF.exm {K : PySem.W.Frag} {C : Addr} {cls : Value} {b : Bool} (h : XcF K C) (s : PySem.W.subIn K cls (.ref C) = some b) : PySem.W.exmOne K cls (.ref C) = some b := PySem.W.exm_ref h.sb h.hd h.ty s
theorem XrF.pmk {X : Cx} {C : Addr} {x m : Str} {j : Nat} {p p2 pos : Pos} (h : XrF X.K C) (gC : X.mg x = some (.ref C)) (hg : Gl X x) (hdb : (x == ("__debug__" : Str)) = false := by decide) :
    L2N.PMk X (.Call (.Name x p) [.Constant (.str m) j p2] [] pos) (fun _ H Q => Q (.ref C) none H) := L2N.pmk_own PySem.F.excBase_ValueError h.ex gC h.kp (raises_own h.sb h.ty) hg hdb
theorem takes0N {X : Cx} : L2N.Takes X (fun _ _ _ _ => False) := fun _ _ x => by
  obtain ⟨_, _, _, _, _, _, _, _, _, _, _, _, _, _, _, _, z⟩ := x
  exact z.elim
theorem roomS {k : Nat} {X : Cx} {a : Addr} {pn : List (Addr × Obj)} (r : Room k X.A) : L2H.RoomH k (X.suite a pn).A := ⟨r.dp, r.un⟩
theorem units65 {k : Nat} {A : Around} (r : Room k A) : A.units + 65 < cLine := by have := r.un; omega
theorem units65H {k : Nat} {A : Around} (r : L2H.RoomH k A) : A.units + 65 < cLine := by have := r.un; omega
/-! a thing of any kind in a tuple -/
def gInP (neg : Bool) : GF := fun d e μ => match topPy d μ, e with
  | some p, .tup ys => (match toPyL ys with
    | some ps => if SeqAt.shaped p = true ∧ SeqAt.shaped (.tuple ps) = true then .val (.bl (if neg then !ps.any fun z => PyData.eqv z p else ps.any fun z => PyData.eqv z p)) μ else .fail
    | none => .fail)
  | _, _ => .fail
def rInX (X : Cx) (neg : Bool) : R2 := fun x y H Q => ∃ p ps, Dp X.K H x p ∧ Dp X.K H y (.tuple ps) ∧ SeqAt.shaped p = true ∧ SeqAt.shaped (.tuple ps) = true ∧ Q (.bl (if neg then !ps.any fun z => PyData.eqv z p else ps.any fun z => PyData.eqv z p)) H
theorem room_inT {A : Around} {d : PyData} {ds : List PyData} (h : SeqAt.shaped d = true) (hu : A.units + 65 < cLine) : A.units + 1 + min (PyData.depthAll ds) d.depth < cLine := by
  have := SeqAt.depth_of_shaped h
  have : min (PyData.depthAll ds) d.depth ≤ d.depth := Nat.min_le_right _ _
  omega
theorem op_inX {X : Cx} (hu : X.A.units + 65 < cLine) : OpR X (compareOp .In) (rInX X false) := by
  intro pins s σ H x y v u Q I rx ry ⟨p, ps, hx, hy, sx, sy, q⟩
  obtain ⟨as, r1⟩ := Dp.reads I p x v hx rx
  obtain ⟨bs, r2⟩ := Dp.reads I (.tuple ps) y u hy ry
  exact SeqAt.in_tuple_reads r2 r1 (SeqAt.canLay_of_shaped sy) (SeqAt.canLay_of_shaped sx) (room_inT sx hu) ⟨.bl _, H, I, rfl, q⟩
theorem op_notInX {X : Cx} (hu : X.A.units + 65 < cLine) : OpR X (compareOp .NotIn) (rInX X true) := by
  intro pins s σ H x y v u Q I rx ry ⟨p, ps, hx, hy, sx, sy, q⟩
  obtain ⟨as, r1⟩ := Dp.reads I p x v hx rx
  obtain ⟨bs, r2⟩ := Dp.reads I (.tuple ps) y u hy ry
  exact SeqAt.notIn_tuple_reads r2 r1 (SeqAt.canLay_of_shaped sy) (SeqAt.canLay_of_shaped sx) (room_inT sx hu) ⟨.bl _, H, I, rfl, q⟩
theorem simO_inX {X : Cx} {W : WX} {neg : Bool} : SimO X.K W (rInX X neg) (gInP neg) := ⟨fun {H0 S0 ad0 tmp ρ μ σ H Q x y d e} R k => by
  obtain ⟨S, ad, c, r1, r2⟩ := R.two
  unfold gInP at k
  split at k
  · rename_i p ys hp
    split at k
    · rename_i ps hps
      split at k
      · rename_i hh
        exact ⟨p, ps, topPy_dp c r1 hp, topPy_dp c r2 (by simp only [topPy, unref, toPy, hps, Option.map_some]), hh.1, hh.2, k _ _ (c.flat (flat_bl _))⟩
      · exact k.elim
    · exact k.elim
  · exact k.elim⟩
/-! an empty dict in a tuple of texts -/
section
open PySem.SeqAt
theorem str_eq_declines_dict (b : Str) (u : Tok) (l : Addr) (es : Array DictEntry) (ep : Nat) (dd : Option Addr) (sl : Array (Option Value)) :
    Meets (Builtin.«str.__eq__» ⟨[.str b u, .ref l], []⟩) (fun _ R s => s.heap.get? l = some { cls := .type "dict", dict := dd, data := .dict es ep, slots := sl } ∧ R (.ok (.ret .notImplemented)) s) :=
  .of_wp fun prog w A R s h => by obtain ⟨hp, g, d, tk, os⟩ := s; obtain ⟨hl, h⟩ := h; wp_walk using wpAny_loadPart' hl, wpAny_load hl; exact ⟨_, rfl, h⟩
theorem dict_eq_declines_str (l : Addr) (es : Array DictEntry) (ep : Nat) (dd : Option Addr) (sl : Array (Option Value)) (b : Str) (u : Tok) :
    Meets (Builtin.«dict.__eq__» ⟨[.ref l, .str b u], []⟩) (fun _ R s => s.heap.get? l = some { cls := .type "dict", dict := dd, data := .dict es ep, slots := sl } ∧ R (.ok (.ret .notImplemented)) s) :=
  .of_wp fun prog w A R s h => by obtain ⟨hp, g, d, tk, os⟩ := s; obtain ⟨hl, h⟩ := h; have f1 := F.sub_str_dict; wp_walk using wpAny_loadPart' hl; exact ⟨_, rfl, h⟩
theorem rc_str_dict {A : Around} {s : Shared} {l : Addr} {o : Obj} {es : Array DictEntry} {ep : Nat} (b : Str) (u : Tok) (ho : s.heap.get? l = some o) (hc : o.cls = .type "dict") (hd : o.data = .dict es ep) (hu : A.units < cLine) : RcAt A s (.str b u) (.ref l) false := fun prog w E Q h => by
  obtain ⟨cls, dd, data, sl⟩ := o
  simp only at hc hd
  subst hc hd
  exact rc_eq_decline_or (k := false) (typeIs_str s b u) ⟨_, ho, rfl⟩ (by decide) F.sub_dict_str F.slot_str_eq F.slot_dict_eq_refl
    (fun _ hq => call_meets F.slot_str_eq (typeIs_str s b u) F.entry_str_eq (F.args_str_eq_2 _ _) (str_eq_declines_dict b u l es ep dd sl) ⟨ho, hq⟩)
    (fun _ hq => call_meets F.slot_dict_eq_refl ⟨_, ho, rfl⟩ F.entry_dict_eq (F.args_dict_eq_2 _ _) (dict_eq_declines_str l es ep dd sl b u) ⟨ho, hq⟩)
    (fun _ hq => wpAny_of_eq (rfl : isSame (.str b u) (.ref l) = pure false) hq) (.inr hu) h
theorem eq_str_dict {A : Around} {s : Shared} {l : Addr} {o : Obj} {es : Array DictEntry} {ep : Nat} (b : Str) (u : Tok) (ho : s.heap.get? l = some o) (hc : o.cls = .type "dict") (hd : o.data = .dict es ep) (hu : A.units < cLine) : EqAt A s (.str b u) (.ref l) false := fun prog w E Q h => by
  unfold eqBool
  refine wpAny_holding (wpAny_ite_split (fun hab => absurd (eq_of_beq hab) nofun) fun _ => ?_)
  exact wpAny_bind (rc_str_dict b u ho hc hd hu prog w E _ (wpAny_truthy_bool h))
end
def rInK (K : PySem.W.Frag) (neg : Bool) : R2 := fun x y H Q => ∃ a p kvs, ∃ zs : List Str, x = .ref a ∧ H a = some (.dK kvs) ∧ y = .ref p ∧ SqT K H p (zs.map V.str) ∧ Q (.bl neg) H
theorem allStr {A : Around} {s : Shared} {l : Addr} {o : Obj} {es : Array DictEntry} {ep : Nat} (ho : s.heap.get? l = some o) (hc : o.cls = .type "dict") (hd : o.data = .dict es ep) (hu : A.units < cLine) : ∀ {zs : List Str} {us : List Value}, Vals (zs.map V.str) us → ∀ u ∈ us, SeqAt.EqAt A s u (.ref l) false
  | [], _, .nil, u, m => by cases m
  | z :: zs, _, .cons r t, u, m => by
    rcases List.mem_cons.mp m with rfl | m
    · obtain ⟨k, rfl⟩ := r
      exact eq_str_dict z k ho hc hd hu
    · exact allStr ho hc hd hu t u m
theorem op_inK {X : Cx} (hu : X.A.units + 65 < cLine) : OpR X (compareOp .In) (rInK X.K false) := by
  intro pins s σ H x y v u Q I rx ry ⟨a, p, kvs, zs, ex, ha, ey, hq, q⟩
  subst ex ey
  obtain rfl : v = Value.ref a := rx
  obtain rfl : u = Value.ref p := ry
  obtain ⟨_, _, vs, kv, o, es, ep, h1, h2, h3, _⟩ := dk_of I.hok ha
  obtain ⟨its, r, pl, hz⟩ := I.tuple hq
  refine SeqAt.in_tupleAt (fun _ => false) pl (fun w hw => allStr h1 h2.1 h3 (by show X.A.units + _ < _; omega) r w (by simpa using hw)) ⟨.bl _, H, I, rfl, ?_⟩
  rw [show its.toArray.any (fun _ => false) = its.any (fun _ => false) by simp, List.any_eq_false.mpr fun _ _ => by simp]
  exact q
theorem op_notInK {X : Cx} (hu : X.A.units + 65 < cLine) : OpR X (compareOp .NotIn) (rInK X.K true) := by
  intro pins s σ H x y v u Q I rx ry ⟨a, p, kvs, zs, ex, ha, ey, hq, q⟩
  subst ex ey
  obtain rfl : v = Value.ref a := rx
  obtain rfl : u = Value.ref p := ry
  obtain ⟨_, _, vs, kv, o, es, ep, h1, h2, h3, _⟩ := dk_of I.hok ha
  obtain ⟨its, r, pl, hz⟩ := I.tuple hq
  refine SeqAt.notIn_tupleAt (fun _ => false) pl (fun w hw => allStr h1 h2.1 h3 (by show X.A.units + _ < _; omega) r w (by simpa using hw)) ⟨.bl _, H, I, rfl, ?_⟩
  rw [show its.toArray.any (fun _ => false) = its.any (fun _ => false) by simp, List.any_eq_false.mpr fun _ _ => by simp]
  exact q
def gInK (neg : Bool) : GF := fun d e μ => match d, e with
  | .ref n, .tup ys => (match μ[n]?, strsD ys with
    | some (.dK _), some _ => .val (.bl neg) μ
    | _, _ => .fail)
  | _, _ => .fail
theorem simO_inK {K : PySem.W.Frag} {W : WX} {neg : Bool} : SimO K W (rInK K neg) (gInK neg) := ⟨fun {H0 S0 ad0 tmp ρ μ σ H Q x y d e} R k => by
  obtain ⟨S, ad, c, r1, r2⟩ := R.two
  unfold gInK at k
  split at k
  · rename_i n ys
    split at k
    · rename_i kvs zs hm hz
      cases r1 with
      | ref ha =>
      cases r2 with
      | tup hs hr =>
        rename_i a p vs
        obtain ⟨ws, g1, _⟩ := c.at_ n a _ ha hm
        rw [strsD_at hr hz] at hs
        exact ⟨a, p, ws, zs, rfl, g1, rfl, .of (c.sh _ _ hs), k _ _ (c.flat (flat_bl _))⟩
    · exact k.elim
  · exact k.elim⟩
theorem orG_val {f g : GF} {d e z : D} {μ μ' : Mu} (h : f d e μ = .val z μ') : orG f g d e μ = .val z μ' := by unfold orG; rw [h]
theorem orG_fail {f g : GF} {d e : D} {μ : Mu} (h : f d e μ = .fail) : orG f g d e μ = g d e μ := by unfold orG; rw [h]
/-- in, not in: as before, or a list, a tuple, a dict in a tuple -/
def gInA : GF := orG (orG gIn (gInP false)) (gInK false)
def gNotInA : GF := orG (orG gNotIn (gInP true)) (gInK true)
theorem oc_inA {X : Cx} {W : WX} (hu : X.A.units + 65 < cLine) : CmO X W .In gInA := ⟨_, ((op_in_seq.or op_in_sign).or (op_inX hu)).or (op_inK hu), ((simO_in.or simO_inS).or simO_inX).or simO_inK⟩
theorem oc_notInA {X : Cx} {W : WX} (hu : X.A.units + 65 < cLine) : CmO X W .NotIn gNotInA := ⟨_, ((op_notIn_seq.or op_notIn_sign).or (op_notInX hu)).or (op_notInK hu), ((simO_in.or simO_notInS).or simO_inX).or simO_inK⟩
end Dn

/-! Dn14: texts: str(n), int(text), text * n, index, walks, is True. -/
namespace Dn
open PySem PySem.Spec PyProof.Rows L2
noncomputable section
/-- a text by its signs -/
abbrev txS (cs : List Nat) : Str := ⟨cs.toArray⟩
abbrev tx (cs : List Nat) : D := .str (txS cs)
theorem txS_tl (x : Str) : txS x.cps.toList = x := by cases x; rfl
theorem txS_inj {a b : List Nat} : txS a = txS b ↔ a = b := ⟨fun h => by
  have := congrArg (fun x : Str => x.cps.toList) h
  simpa using this, fun h => by rw [h]⟩
@[simp] theorem txS_len (a : List Nat) : (txS a).length = a.length := by show a.toArray.size = _; simp
theorem txS_app (a b : List Nat) : txS a ++ txS b = txS (a ++ b) := by
  show (⟨a.toArray ++ b.toArray⟩ : Str) = _
  simp
/-! str(n), int(text) -/
@[simp] def gStr : List D → Mu → Res D := fun ds μ => match ds with
  | [.int i] => if i.natAbs.log2 < 1900 then .val (.str (Str.ofString (toString i))) μ else .fail
  | _ => .fail
@[simp] def gInt : List D → Mu → Res D := fun ds μ => match ds with
  | [.int i] => .val (.int i) μ
  | [.bl k] => .val (.int (if k then 1 else 0)) μ
  | [.str a] => if a.length ≤ 640 then (match PySem.intText? a with
    | some n => .val (.int n) μ
    | none => .fail) else .fail
  | _ => .fail
section
variable {X : Cx} {W : WX} {K : PySem.W.Frag}
theorem cb_str : CbO X W (.type "str") gStr := ⟨_, call_str_int, ⟨fun {H0 S0 ad0 tmp ρ μ σ H Q xs ds} hl R k => by
  obtain ⟨S, ad, c, r⟩ := R.args hl
  unfold gStr at k
  split at k
  · rename_i i
    obtain ⟨v, rfl, rv⟩ := rpL1 r
    cases rv
    split at k
    · rename_i h
      exact ⟨i, rfl, by omega, k _ _ (c.flat (flat_str _))⟩
    · exact k.elim
  · exact k.elim⟩⟩
def rInt : List V → Hp → VK → Prop := fun xs H Q => ((∃ i, xs = [.int i] ∧ Q (.int i) H) ∨ ∃ k, xs = [.bl k] ∧ Q (.int (if k then 1 else 0)) H) ∨ ∃ a n, xs = [.str a] ∧ PySem.intText? a = some n ∧ a.length ≤ 640 ∧ Q (.int n) H
theorem call_intA : CallR X (.type "int") rInt := by
  intro pins s σ H xs us Q I r h
  rcases h with h | h
  · exact call_int1 pins s σ H xs us Q I r h
  · exact call_int_str pins s σ H xs us Q I r h
theorem cb_int : CbO X W (.type "int") gInt := ⟨_, call_intA, ⟨fun {H0 S0 ad0 tmp ρ μ σ H Q xs ds} hl R k => by
  obtain ⟨S, ad, c, r⟩ := R.args hl
  unfold gInt at k
  split at k
  · rename_i i
    obtain ⟨v, rfl, rv⟩ := rpL1 r
    cases rv
    exact .inl (.inl ⟨i, rfl, k _ _ (c.flat (flat_int _))⟩)
  · rename_i b
    obtain ⟨v, rfl, rv⟩ := rpL1 r
    cases rv
    exact .inl (.inr ⟨b, rfl, k _ _ (c.flat (flat_int _))⟩)
  · rename_i a
    obtain ⟨v, rfl, rv⟩ := rpL1 r
    cases rv
    split at k
    · rename_i h
      split at k
      · rename_i n hn
        exact .inr ⟨a, n, rfl, hn, h, k _ _ (c.flat (flat_int _))⟩
      · exact k.elim
    · exact k.elim
  · exact k.elim⟩⟩
/-! is True, is not False -/
def gIsBF (f : Bool → Bool) : GF := fun d e μ => match d, e with
  | .bl a, .bl b => .val (.bl (f (decide (a = b)))) μ
  | _, _ => .fail
def gIsB : GF := gIsBF id
def gNotB : GF := gIsBF not
@[simp] theorem gIsB_bl (a b : Bool) (μ : Mu) : gIsB (.bl a) (.bl b) μ = .val (.bl (decide (a = b))) μ := rfl
@[simp] theorem gNotB_bl (a b : Bool) (μ : Mu) : gNotB (.bl a) (.bl b) μ = .val (.bl (!decide (a = b))) μ := rfl
theorem oc_isB : CmO X W .Is gIsB := ⟨_, op_isBl, ⟨fun {H0 S0 ad0 tmp ρ μ σ H Q x y d e} R k => by
  obtain ⟨S, ad, c, r1, r2⟩ := R.two
  unfold gIsB gIsBF at k
  split at k
  · cases r1; cases r2
    exact ⟨_, _, rfl, rfl, k _ _ (c.flat (flat_bl _))⟩
  · exact k.elim⟩⟩
theorem oc_notB : CmO X W .IsNot gNotB := ⟨_, op_notBl, ⟨fun {H0 S0 ad0 tmp ρ μ σ H Q x y d e} R k => by
  obtain ⟨S, ad, c, r1, r2⟩ := R.two
  unfold gNotB gIsBF at k
  split at k
  · cases r1; cases r2
    exact ⟨_, _, rfl, rfl, k _ _ (c.flat (flat_bl _))⟩
  · exact k.elim⟩⟩
/-! text * n -/
def repT (z : Str) (n : Nat) : Str := txS (List.replicate n z.cps.toList).flatten
def rMulS : R2 := fun x y H Q => ∃ (z : Str) (n : Nat), x = .str z ∧ y = .int (n : Int) ∧ z.length ≤ 100000 ∧ n ≤ 100000 ∧ z.length * n ≤ 100000 ∧ Q (.str (repT z n)) H
theorem foldl_app : ∀ (n : Nat) (a b : Array Nat), (List.replicate n a).foldl (· ++ ·) b = b ++ ((List.replicate n a.toList).flatten).toArray
  | 0, a, b => by simp
  | n + 1, a, b => by
    rw [List.replicate_succ, List.foldl_cons, foldl_app n a (b ++ a), List.replicate_succ, List.flatten_cons]
    rw [Array.append_assoc]
    congr 1
    exact Array.ext' (by simp)
theorem op_mulS : OpR X (binaryOp .Mult) rMulS := by
  intro pins s σ H x y v u Q I rx ry h
  obtain ⟨z, n, rfl, rfl, h1, h2, h3, q⟩ := h
  obtain ⟨t, rfl⟩ := rx
  obtain ⟨t', rfl⟩ := ry
  have hs : sizeLine = 16777216 := sizeLine_eq
  refine PySem.P.mul_str ?_ (fun h4 h5 => ?_) (fun h4 h5 => ?_) ?_
  · rw [decide_eq_false (by omega), decide_eq_false (by omega)]; rfl
  · have hn : (0 : Int) < (n : Int) := by omega
    intro hgt
    have h6 : (2 ^ 63 - 1) / (n : Int) < (z.length : Int) := hgt
    rw [Int.ediv_lt_iff_lt_mul hn] at h6
    have : ((z.length * n : Nat) : Int) ≤ 100000 := by omega
    rw [Int.natCast_mul] at this
    omega
  · rw [Int.toNat_natCast]
    exact decide_eq_false (by rw [hs]; omega)
  · by_cases c1 : (n : Int) < 1
    · rw [if_pos c1]
      have e : n = 0 := by omega
      subst e
      exact ⟨by decide, ⟨.str _, H, I.tok _, ⟨_, rfl⟩, q⟩⟩
    · rw [if_neg c1]
      by_cases c2 : ((n : Int) == 1 || z.length == 0) = true
      · rw [if_pos c2]
        have e : repT z n = z := by
          unfold repT
          simp only [Bool.or_eq_true, beq_iff_eq] at c2
          rcases c2 with c2 | c2
          · have : n = 1 := by omega
            subst this
            simp
          · have e0 : z.cps.toList = [] := by
              have : z.cps.toList.length = 0 := by rw [Array.length_toList]; exact c2
              exact List.eq_nil_of_length_eq_zero this
            rw [← txS_tl z, e0]
            simp
        rw [e] at q
        exact ⟨.str z, H, I, ⟨_, rfl⟩, q⟩
      · rw [if_neg c2]
        have e : (⟨(List.replicate (n : Int).toNat z.cps).foldl (· ++ ·) #[]⟩ : Str) = repT z n := by
          rw [Int.toNat_natCast, foldl_app]
          simp [repT]
        rw [e]
        refine ⟨?_, ⟨.str _, H, I.tok _, ⟨_, rfl⟩, q⟩⟩
        have : (repT z n).length = n * z.length := by
          unfold repT
          rw [txS_len]
          simp
          rfl
        rw [this, hs, Nat.mul_comm]
        omega
def gMulS : GF := fun d e μ => match d, e with
  | .str z, .int k => if 0 ≤ k ∧ k ≤ 100000 ∧ z.length ≤ 100000 ∧ z.length * k.toNat ≤ 100000 then .val (.str (repT z k.toNat)) μ else .fail
  | _, _ => .fail
theorem simO_mulS : SimO K W rMulS gMulS := ⟨fun {H0 S0 ad0 tmp ρ μ σ H Q x y d e} R k => by
  obtain ⟨S, ad, c, r1, r2⟩ := R.two
  unfold gMulS at k
  split at k
  · rename_i z n
    cases r1; cases r2
    split at k
    · rename_i h
      exact ⟨z, n.toNat, rfl, by rw [show ((n.toNat : Nat) : Int) = n by omega], h.2.2.1, by omega, h.2.2.2, k _ _ (c.flat (flat_str _))⟩
    · exact k.elim
  · exact k.elim⟩
def gMulB : GF := orG gMulS gMulA
theorem oo_mulB : OpO X W .Mult gMulB := ⟨_, op_mulS.or (op_mulX.or (op_rep.or (op_repT.or op_rep01))), (simO_mulS).or ((simO_I (fun _ _ h => mulOk_ok h) fun i j => flat_int _).or (simO_repL.or (simO_repT.or simO_rep01)))⟩
@[simp] theorem gMulB_int (i j : Int) (μ : Mu) : gMulB (.int i) (.int j) μ = gMulA (.int i) (.int j) μ := rfl
theorem gMulB_str {z : Str} {k : Int} {μ : Mu} (h0 : 0 ≤ k) (h1 : k ≤ 100000) (h2 : z.length ≤ 100000) (h3 : z.length * k.toNat ≤ 100000) : gMulB (.str z) (.int k) μ = .val (.str (repT z k.toNat)) μ := by
  simp only [gMulB, orG, gMulS, if_pos (show 0 ≤ k ∧ k ≤ 100000 ∧ z.length ≤ 100000 ∧ z.length * k.toNat ≤ 100000 from ⟨h0, h1, h2, h3⟩)]
/-! text.index(sign) -/
@[simp] def gIndex : MF := fun d ds μ => match d, ds with
  | .str a, [.str b] => (match Builtin.Str.occurrences a b 0 a.length 1 with
    | i :: _ => .val (.int (i : Nat)) μ
    | [] => .fail)
  | _, _ => .fail
theorem mo_index : MtO X W "str.index" gIndex := ⟨_, mt_sindex, ⟨fun {H0 S0 ad0 tmp ρ μ σ H Q x d xs ds} hl R k => by
  obtain ⟨S, ad, c, rx, ra⟩ := R.margs hl
  unfold gIndex at k
  split at k
  · rename_i a b
    obtain ⟨v, rfl, rv⟩ := rpL1 ra
    cases rv
    cases rx
    split at k
    · rename_i i r hi
      exact ⟨a, b, i, r, rfl, rfl, hi, k _ _ (c.flat (flat_int _))⟩
    · exact k.elim
  · exact k.elim⟩⟩
/-! for sign in text -/
def signsD (z : Str) : List D := mapD (fun c : Nat => D.str ⟨#[c]⟩) z.cps.toList
theorem jw_str {z : Str} : JW K (Its z) (signsD z) [] := fun {H0 S0 ad0 tmp ρ μ σ H} R i => by
  unfold signsD mapD
  refine ⟨fun d hd => ?_, fun hi => ?_⟩
  · rw [List.getElem?_map] at hd
    obtain ⟨c, hc, rfl⟩ := Option.map_eq_some_iff.mp hd
    have hl := (List.getElem?_eq_some_iff.mp hc).1
    rw [Array.length_toList] at hl
    refine ⟨hl, ?_⟩
    rintro x H' ⟨rfl, c', hc', rfl⟩
    rw [Array.getElem?_toList] at hc
    rw [hc] at hc'
    cases hc'
    exact R.flat (flat_str _)
  · rw [List.length_map, Array.length_toList] at hi
    exact hi
@[simp] def iStrD (f : EF) : AF := fun ρ μ => (f ρ μ).bind fun d μ1 => match d with
  | .str z => .val (signsD z) μ1
  | _ => .fail
theorem di_str {tg iter : Expr} {fe : EF} (he : DE X W iter fe) : DI X W tg iter (iStrD fe) := by
  obtain ⟨t, p1, q1⟩ := he
  refine ⟨_, pi_str p1, ⟨fun {H0 S0 ad0 tmp ρ μ σ H R} r k => ?_⟩⟩
  refine q1.run r ?_
  unfold iStrD at k
  cases e1 : fe ρ μ with
  | fail => rw [e1] at k; exact k.elim
  | exc x μ1 => rw [e1] at k; exact k
  | val d μ1 =>
    rw [e1] at k
    simp only [bind_val] at k
    intro v H1 R1
    split at k
    · rename_i z
      obtain ⟨S, ad, c, rv⟩ := R1.one
      cases rv
      exact ⟨z, rfl, k _ [] _ ⟨S, ad, c⟩ jw_str⟩
    · exact k.elim
end
end
end Dn

/-! Dn26: list(text); != of anything with itself, dicts too. -/
namespace Dn
open PySem PySem.Spec PyProof.Rows L2
theorem CmO.or {X : Cx} {W : WX} {op : CmpOp} {g1 g2 : GF} (h1 : CmO X W op g1) (h2 : CmO X W op g2) : CmO X W op (orG g1 g2) := by
  obtain ⟨_, p1, q1⟩ := h1
  obtain ⟨_, p2, q2⟩ := h2
  exact ⟨_, p1.or p2, q1.or q2⟩
def gNeA : GF := orG gNe gDNe
theorem oc_neA {X : Cx} {W : WX} (h1 : X.A.units + 64 < cLine) (h2 : X.A.units + 1 < cLine) : CmO X W .NotEq gNeA := (oc_ne h1).or (oc_dne h2)
/-! list(text) -/
def rListS : List V → Hp → VK → Prop := fun xs H Q => ∃ z : Str, xs = [.str z] ∧ z.cps.size ≤ sizeLine ∧ ∀ p, H p = none → Q (.ref p) (upd H p (.lst (z.cps.toList.map fun c : Nat => V.str ⟨#[c]⟩)))
theorem call_listS {X : Cx} (hc : X.calm = true) : CallR X (.type "list") rListS := by
  intro pins s σ H xs us Q I r ⟨z, e, hz, q⟩
  subst e
  obtain ⟨u, eu, rx⟩ := vals1 r
  subst eu
  obtain ⟨t, rfl⟩ := rx
  refine call_list_str (I.ok.hd hc) z t (fun h' tk acc' c' hkeep hS hacc => ?_) hz
  refine ⟨.ref s.heap.objs.size, upd H s.heap.objs.size (.lst (z.cps.toList.map fun c : Nat => V.str ⟨#[c]⟩)), I.laid hkeep (Nat.le_refl _) (show ObjOk X.prog X.w _ _ _ (.lst _) from ⟨?_, acc'.toList, c', ?_, ?_⟩), rfl, q _ (I.hok.fresh (Nat.le_refl _))⟩
  · rw [List.length_map]; simpa using hz
  · have el : acc'.toList.length = acc'.size := by simp
    refine vals_of_at (by rw [List.length_map, el, hacc.1]; simp) fun j x w h1 h2 => ?_
    obtain ⟨c, k, hk, rfl⟩ := hacc.2 j w (by rw [← Array.getElem?_toList]; exact h2)
    rw [List.getElem?_map, Array.getElem?_toList, hk] at h1
    cases h1
    exact ⟨k, rfl⟩
  · rw [Array.toArray_toList]; exact hS
@[simp] def gListS : List D → Mu → Res D := fun ds μ => match ds with
  | [.str z] => if z.cps.size ≤ 100000 then .val (.lst (signsD z)) μ else .fail
  | _ => .fail
section
variable {K : PySem.W.Frag} {S : Hp} {ad : Ad}
theorem rpL_signs : ∀ cs : List Nat, RpL K S ad (cs.map fun c : Nat => V.str ⟨#[c]⟩) (mapD (fun c : Nat => D.str ⟨#[c]⟩) cs)
  | [] => .nil
  | c :: cs => .cons (.str _) (rpL_signs cs)
end
theorem cb_listS {X : Cx} {W : WX} (hc : X.calm = true) : CbO X W (.type "list") gListS := ⟨_, call_listS hc, ⟨fun {H0 S0 ad0 tmp ρ μ σ H Q xs ds} hl R k => by
  obtain ⟨S, ad, c, r⟩ := R.args hl
  unfold gListS at k
  split at k
  · rename_i z
    obtain ⟨v, rfl, rv⟩ := rpL1 r
    cases rv
    split at k
    · rename_i hz
      exact ⟨z, rfl, by rw [sizeLine_eq]; omega, fun l hl => k _ _ (newLst c (rpL_signs _) hl)⟩
    · exact k.elim
  · exact k.elim⟩⟩
@[simp] def gListA : List D → Mu → Res D := fun ds μ => match gList ds μ with
  | .fail => gListS ds μ
  | r => r
theorem cb_listA {X : Cx} {W : WX} (hc : X.calm = true) : CbO X W (.type "list") gListA := by
  obtain ⟨r1, p1, q1⟩ := cb_list (X := X) (W := W)
  obtain ⟨r2, p2, q2⟩ := cb_listS (X := X) (W := W) hc
  refine ⟨fun xs H Q => r1 xs H Q ∨ r2 xs H Q, fun pins s σ H xs us Q I r h => h.elim (p1 pins s σ H xs us Q I r) (p2 pins s σ H xs us Q I r), ⟨fun {H0 S0 ad0 tmp ρ μ σ H Q xs ds} hl R k => ?_⟩⟩
  unfold gListA at k
  cases e1 : gList ds μ with
  | fail => rw [e1] at k; exact .inr (q2.run hl R k)
  | exc x μ1 => rw [e1] at k; exact .inl (q1.run hl R (by rw [e1]; exact k))
  | val d μ1 => rw [e1] at k; exact .inl (q1.run hl R (by rw [e1]; exact k))
end Dn

/-! Dn27: x -= e. -/
namespace Dn
open PySem PySem.Spec PyProof.Rows L2
theorem ds_augSub {X : Cx} {W : WX} {fe : EF} (i : Nat) {x : Str} {e : Expr} {pos' pos : Pos} (hN : X.N.Nodup) (he : DE X W e fe) (hi : X.N[i]? = some x := by rfl) (hx : Loc X.env.scope x := by first | exact Or.inl rfl | exact Or.inr rfl) (hf : X.fn x = true ∨ X.env.scope.names.lookup x = some .local := by first | exact .inl rfl | exact .inr rfl | assumption) :
    DS X W (.AugAssign (.Name x pos') .Sub e pos) (sAug i fe (gI fun i j => .int (i - j))) := let ⟨_, p1, q1⟩ := he; ⟨_, ps_aug hN hi hx p1 ip_sub hf, simS_aug q1 sim_ipI⟩
end Dn

/-! Dn18: in use: texts by their signs, == of alike data, lists by what makes them, the memory that grows. -/
namespace Dn
open PySem PySem.Spec PyProof.Rows L2
noncomputable section
/-! texts -/
def nthN (cs : List Nat) (i : Nat) : Nat := cs.getD i 0
theorem gLen_tx {cs : List Nat} (h : cs.length ≤ 100000) (μ : Mu) : gLen [tx cs] μ = .val (.int cs.length) μ := by
  simp [gLen, h]
theorem gIx_tx {cs : List Nat} {i : Int} (h0 : 0 ≤ i) (h1 : i < cs.length) (hz : cs.length ≤ 100000) (μ : Mu) : gIx (tx cs) (.int i) μ = .val (tx [nthN cs i.toNat]) μ := by
  have e : atI cs i = some (nthN cs i.toNat) := atI_in h0 h1
  simp [gIx, hz, e]
theorem gSl_tx {cs : List Nat} {lo hi : Option Int} (hz : cs.length ≤ 100000) (μ : Mu) : gSl (tx cs) lo hi μ = .val (tx (cutL cs lo hi)) μ := by
  have e : cutS (txS cs) lo hi = txS (cutL cs lo hi) := by
    unfold cutS cutL
    rw [txS_len]
  simp only [gSl, txS_len, if_pos hz, e]
theorem gAdd_tx {a b : List Nat} (hz : a.length + b.length ≤ 100000) (μ : Mu) : gAddA (tx a) (tx b) μ = .val (tx (a ++ b)) μ := by
  simp only [gAddA, orG, gI, gCatS, txS_len, if_pos hz, txS_app]
theorem gEq_tx (a b : List Nat) (μ : Mu) : gEq (tx a) (tx b) μ = .val (.bl (decide (a = b))) μ := by
  rw [gEq_str]
  simp only [txS_inj]
theorem gNe_tx (a b : List Nat) (μ : Mu) : gNe (tx a) (tx b) μ = .val (.bl (!decide (a = b))) μ := by
  rw [gNe_str]
  simp only [txS_inj]
theorem gNotIn_tx (c : Nat) (cs : List Nat) (μ : Mu) : gNotIn (tx [c]) (tx cs) μ = .val (.bl (!decide (c ∈ cs))) μ := by
  have e : one (txS [c]) = c := rfl
  simp only [gNotIn, orG, gInF, sqOf, Option.bind_none, gInS, e]
  rfl
theorem gIn_tx (c : Nat) (cs : List Nat) (μ : Mu) : gIn (tx [c]) (tx cs) μ = .val (.bl (decide (c ∈ cs))) μ := by
  have e : one (txS [c]) = c := rfl
  simp only [gIn, orG, gInF, sqOf, Option.bind_none, gInS, e]
  rfl
theorem signs_tx (cs : List Nat) : signsD (txS cs) = mapD (fun c => tx [c]) cs := rfl
theorem gMulB_tx {c : Nat} {k : Int} {μ : Mu} (h0 : 0 ≤ k) (h1 : k ≤ 100000) : gMulB (tx [c]) (.int k) μ = .val (tx (List.replicate k.toNat c)) μ := by
  rw [gMulB_str h0 h1 (by simp) (by simp; omega)]
  have e : repT (txS [c]) k.toNat = txS (List.replicate k.toNat c) := by
    unfold repT
    congr 2
    simp
  rw [e]
/-! == of alike data -/
theorem gEq_same {d e : D} {μ : Mu} {p : PyData} (h1 : topPy d μ = some p) (h2 : topPy e μ = some p) (h3 : SeqAt.shaped p = true) : gEq d e μ = .val (.bl true) μ := by
  have hr := SeqAt.eqv_refl p (SeqAt.canLay_of_shaped h3)
  unfold gEq orG
  cases hs : gEqS d e μ with
  | fail =>
    simp only
    unfold gEqD
    rw [h1, h2]
    simp only
    rw [if_pos ⟨h3, h3⟩, hr]
  | exc x μ' => unfold gEqS at hs; split at hs <;> cases hs
  | val r μ' =>
    simp only
    unfold gEqS at hs
    split at hs
    · simp [topPy] at h1 h2; subst h1; cases h2; cases hs; simp
    · simp [topPy] at h1 h2; subst h1; cases h2; cases hs; simp
    · simp [topPy] at h1 h2; subst h1; cases h2; cases hs; simp
    · cases hs
theorem gNe_same {d e : D} {μ : Mu} {p : PyData} (h1 : topPy d μ = some p) (h2 : topPy e μ = some p) (h3 : SeqAt.shaped p = true) : gNe d e μ = .val (.bl false) μ := by
  have hr := SeqAt.eqv_refl p (SeqAt.canLay_of_shaped h3)
  unfold gNe orG
  cases hs : gNeS d e μ with
  | fail =>
    simp only
    unfold gNeD
    rw [h1, h2]
    simp only
    rw [if_pos ⟨h3, h3⟩, hr]
    rfl
  | exc x μ' => unfold gNeS at hs; split at hs <;> cases hs
  | val r μ' =>
    simp only
    unfold gNeS at hs
    split at hs
    · simp [topPy] at h1 h2; subst h1; cases h2; cases hs; simp
    · simp [topPy] at h1 h2; subst h1; cases h2; cases hs; simp
    · simp [topPy] at h1 h2; subst h1; cases h2; cases hs; simp
    · cases hs
theorem topPy_ref {n : Nat} {μ : Mu} {xs : List D} (h : μ[n]? = some (.lst xs)) : topPy (.ref n) μ = toPy (.lst xs) := by simp only [topPy, unref, h]
theorem toPyL_map {α : Type} {f : α → D} {g : α → PyData} (h : ∀ x, toPy (f x) = some (g x)) (xs : List α) : toPyL (mapD f xs) = some (xs.map g) := by
  induction xs with
  | nil => rfl
  | cons x r ih => rw [mapD_cons]; simp [ih, h]
theorem lay_map {α : Type} {g : α → PyData} : ∀ {xs : List α}, (∀ x ∈ xs, (g x).canLay0 = true) → PyData.canLayAll0 (xs.map g) = true
  | [], _ => by simp
  | x :: r, h => by
    rw [List.map_cons, lay_cons, h x List.mem_cons_self, lay_map fun y hy => h y (List.mem_cons_of_mem _ hy)]
    rfl
theorem dep_map {α : Type} {g : α → PyData} {n : Nat} : ∀ {xs : List α}, (∀ x ∈ xs, (g x).depth ≤ n) → PyData.depthAll (xs.map g) ≤ n
  | [], _ => by simp
  | x :: r, h => by
    have := dep_map (g := g) (xs := r) fun y hy => h y (List.mem_cons_of_mem _ hy)
    have := h x List.mem_cons_self
    rw [List.map_cons, dep_cons]
    omega
theorem strOk_tx {cs : List Nat} (h : ∀ c ∈ cs, c < 1000) : PyData.strOk (txS cs) = true := by
  unfold PyData.strOk
  rw [← Array.all_toList, List.all_eq_true]
  intro c hc
  have := h c hc
  exact decide_eq_true (by omega)
/-! lists of small numbers -/
abbrev dn : Nat → D := fun i => .int i
theorem toPyL_dn (ks : List Nat) : toPyL (mapD dn ks) = some (ks.map fun i : Nat => PyData.int (i : Int)) := toPyL_map (fun x => rfl) ks
theorem shaped_dn (ks : List Nat) : SeqAt.shaped (.list (ks.map fun i : Nat => PyData.int (i : Int))) = true := by
  have h1 : PyData.canLayAll0 (ks.map fun i : Nat => PyData.int (i : Int)) = true := lay_map fun x _ => by simp
  have h2 : PyData.depthAll (ks.map fun i : Nat => PyData.int (i : Int)) ≤ 0 := dep_map fun x _ => by simp
  simp [h1]
  omega
theorem nfL_dn (ks : List Nat) : nfL (mapD dn ks) = true := mapD_nf fun _ => by simp
theorem fzL_dn (μ : Mu) (ks : List Nat) : fzL μ (mapD dn ks) = mapD dn ks := mapD_fz fun _ => by simp
theorem mapD_congr {α : Type} {f g : α → D} {xs : List α} (h : ∀ x, f x = g x) : mapD f xs = mapD g xs := by rw [show f = g from funext h]
theorem range_dn (n : Nat) : ((List.range n).map fun i : Nat => D.int (0 + (i : Int))) = mapD dn (List.range n) := by
  unfold mapD dn
  congr 1
  funext i
  rw [Int.zero_add]
@[simp] theorem range_dn' (n : Nat) : ((List.range n).map fun i : Nat => D.int (i : Int)) = mapD dn (List.range n) := rfl
theorem nfL_tx (ls : List (List Nat)) : nfL (mapD tx ls) = true := mapD_nf fun _ => by simp
theorem fzL_tx (μ : Mu) (ls : List (List Nat)) : fzL μ (mapD tx ls) = mapD tx ls := mapD_fz fun _ => by simp
theorem toPyL_tx (ls : List (List Nat)) : toPyL (mapD tx ls) = some (ls.map fun l => PyData.str (txS l)) := toPyL_map (fun x => rfl) ls
theorem shaped_tx {ls : List (List Nat)} (h : ∀ l ∈ ls, ∀ c ∈ l, c < 1000) : SeqAt.shaped (.list (ls.map fun l => PyData.str (txS l))) = true := by
  have h1 : PyData.canLayAll0 (ls.map fun l => PyData.str (txS l)) = true := lay_map fun x hx => by rw [lay_str]; exact strOk_tx (h x hx)
  have h2 : PyData.depthAll (ls.map fun l => PyData.str (txS l)) ≤ 0 := dep_map fun x _ => by simp
  simp [h1]
  omega
theorem atI_mapD0 {α : Type} [Inhabited α] {f : α → D} {zs : List α} {k : Int} (h0 : 0 ≤ k) (h1 : k < zs.length) : atI (mapD f zs) k = some (f (zs.getD k.toNat default)) := by
  rw [atI_mapD, atI_in h0 h1]
  rfl
theorem gIx_mapD {α : Type} [Inhabited α] {f : α → D} {zs : List α} {k : Int} (h0 : 0 ≤ k) (h1 : k < zs.length) (μ : Mu) : gIx (.lst (mapD f zs)) (.int k) μ = .val (f (zs.getD k.toNat default)) μ := gIx_lst (atI_mapD0 h0 h1)
/-! x in xs, ints -/
theorem flVs_map {α : Type} {f : α → D} {g : α → V} (h : ∀ x, flV (f x) = some (g x)) (xs : List α) : flVs (mapD f xs) = some (xs.map g) := by
  induction xs with
  | nil => rfl
  | cons x r ih => rw [mapD_cons]; simp only [flVs, h, ih, Option.bind_some, Option.map_some, List.map_cons]
/-! the memory that grows -/
theorem get_new {μ : Mu} {x : Nd} : (μ ++ [x])[μ.length]? = some x := by rw [List.getElem?_append_right (Nat.le_refl _)]; simp
theorem get_old {μ ν : Mu} {i : Nat} {x : Nd} (h : μ[i]? = some x) : (μ ++ ν)[i]? = some x := by
  rw [List.getElem?_append_left (List.getElem?_eq_some_iff.mp h).1]; exact h
theorem get_lt {μ : Mu} {i : Nat} {x : Nd} (h : μ[i]? = some x) : i < μ.length := (List.getElem?_eq_some_iff.mp h).1
theorem get_set {μ : Mu} {i j : Nat} {x y : Nd} (h : μ[i]? = some x) (hne : i ≠ j) : (μ.set j y)[i]? = some x := by
  rw [List.getElem?_set_ne (fun z => hne z.symm)]; exact h
theorem get_at {μ : Mu} {i : Nat} {x y : Nd} (h : μ[i]? = some x) : (μ.set i y)[i]? = some y := List.getElem?_set_self (get_lt h)
theorem set_new {μ : Mu} {x y : Nd} : (μ ++ [x]).set μ.length y = μ ++ [y] := by
  rw [List.set_append_right _ _ (Nat.le_refl _)]
  simp
theorem set_old {μ ν : Mu} {i : Nat} {x y : Nd} (h : μ[i]? = some x) : (μ ++ ν).set i y = μ.set i y ++ ν := List.set_append_left _ _ (get_lt h)
/-! two rising lists with the same members -/
theorem rising_eq : ∀ {a b : List Nat}, a.Pairwise (· < ·) → b.Pairwise (· < ·) → (∀ x, x ∈ a ↔ x ∈ b) → a = b
  | [], [], _, _, _ => rfl
  | [], y :: b, _, _, h => absurd ((h y).mpr List.mem_cons_self) (by simp)
  | x :: a, [], _, _, h => absurd ((h x).mp List.mem_cons_self) (by simp)
  | x :: a, y :: b, ha, hb, h => by
    have ha' := List.pairwise_cons.mp ha
    have hb' := List.pairwise_cons.mp hb
    have e : x = y := by
      have h1 := (h x).mp List.mem_cons_self
      have h2 := (h y).mpr List.mem_cons_self
      rcases List.mem_cons.mp h1 with h1 | h1
      · exact h1
      · rcases List.mem_cons.mp h2 with h2 | h2
        · exact h2.symm
        · have := ha'.1 y h2
          have := hb'.1 x h1
          omega
    subst e
    congr 1
    refine rising_eq ha'.2 hb'.2 fun z => ⟨fun hz => ?_, fun hz => ?_⟩
    · rcases List.mem_cons.mp ((h z).mp (List.mem_cons_of_mem _ hz)) with e | k
      · have := ha'.1 z hz
        omega
      · exact k
    · rcases List.mem_cons.mp ((h z).mpr (List.mem_cons_of_mem _ hz)) with e | k
      · have := hb'.1 z hz
        omega
      · exact k
theorem rising_range (n : Nat) : (List.range n).Pairwise (· < ·) := List.pairwise_lt_range
end
/-! == of lists of cells: a list's items that are cells are read, too -/
section
variable {K : PySem.W.Frag} {H0 S0 : Hp} {ad0 : Ad} {S : Hp} {ad : Ad} {tmp : List (V × D)} {ρ : Ro} {μ : Mu} {σ : L2.St} {H : Hp}
mutual
theorem fz_dp (c : Core K H0 S0 ad0 S ad tmp ρ μ σ H) : ∀ {d : D} {v : V} {p : PyData}, Rp K S ad v d → toPy (fz μ d) = some p → Dp K H v p
  | .non, _, _, r, h => toPy_dp c.sh r h
  | .bl b, _, _, r, h => toPy_dp c.sh r h
  | .int i, _, _, r, h => toPy_dp c.sh r h
  | .str s, _, _, r, h => toPy_dp c.sh r h
  | .scr _, _, _, _, h => by simp [fz, toPy] at h
  | .raw _, _, _, _, h => by simp [fz, toPy] at h
  | .exn .., _, _, _, h => by simp [fz, toPy] at h
  | .ref n, _, _, r, h => by
    cases r with
    | ref ha =>
      simp only [fz] at h
      split at h
      · rename_i xs hm
        obtain ⟨ys, h1, h2⟩ := c.at_ n _ _ ha hm
        simp only [toPy, Option.map_eq_some_iff] at h
        obtain ⟨ps, h3, rfl⟩ := h
        exact .lst (.of h1) (toPyL_dp c.sh h2 h3)
      · simp [toPy] at h
  | .tup xs, _, _, r, h => by
    cases r with
    | tup hs hr =>
      simp only [fz, toPy, Option.map_eq_some_iff] at h
      obtain ⟨ps, h1, rfl⟩ := h
      exact .tup (.of (c.sh _ _ hs)) (fzL_dp c hr h1)
  | .lst xs, _, _, r, h => by
    cases r with
    | lst hs hr =>
      simp only [fz, toPy, Option.map_eq_some_iff] at h
      obtain ⟨ps, h1, rfl⟩ := h
      exact .lst (.of (c.sh _ _ hs)) (fzL_dp c hr h1)
theorem fzL_dp (c : Core K H0 S0 ad0 S ad tmp ρ μ σ H) : ∀ {ds : List D} {vs : List V} {ps : List PyData}, RpL K S ad vs ds → toPyL (fzL μ ds) = some ps → DpAll K H vs ps
  | [], _, _, r, h => by cases r; simp only [fzL, toPyL] at h; cases h; exact .nil
  | d :: ds, _, _, r, h => by
    cases r with
    | cons r1 r2 =>
      simp only [fzL, toPyL, Option.bind_eq_some_iff, Option.map_eq_some_iff] at h
      obtain ⟨p, h1, ps, h2, rfl⟩ := h
      exact .cons (fz_dp c r1 h1) (fzL_dp c r2 h2)
end
end
def gEqF : GF := fun d e μ => match toPy (fz μ d), toPy (fz μ e) with
  | some p, some q => if SeqAt.shaped p = true ∧ SeqAt.shaped q = true then .val (.bl (PyData.eqv p q)) μ else .fail
  | _, _ => .fail
def gNeF : GF := fun d e μ => match toPy (fz μ d), toPy (fz μ e) with
  | some p, some q => if SeqAt.shaped p = true ∧ SeqAt.shaped q = true then .val (.bl (!PyData.eqv p q)) μ else .fail
  | _, _ => .fail
section
variable {K : PySem.W.Frag} {W : WX} {X : Cx}
theorem simO_eqF : SimO K W (rEqD K) gEqF := ⟨fun {H0 S0 ad0 tmp ρ μ σ H Q x y d e} R k => by
  obtain ⟨S, ad, c, r1, r2⟩ := R.two
  unfold gEqF at k
  split at k
  · rename_i p q h1 h2
    split at k
    · rename_i hs
      exact ⟨p, q, fz_dp c r1 h1, fz_dp c r2 h2, hs.1, hs.2, k _ _ (c.flat (flat_bl _))⟩
    · exact k.elim
  · exact k.elim⟩
theorem simO_neF : SimO K W (rNeD K) gNeF := ⟨fun {H0 S0 ad0 tmp ρ μ σ H Q x y d e} R k => by
  obtain ⟨S, ad, c, r1, r2⟩ := R.two
  unfold gNeF at k
  split at k
  · rename_i p q h1 h2
    split at k
    · rename_i hs
      exact ⟨p, q, fz_dp c r1 h1, fz_dp c r2 h2, hs.1, hs.2, k _ _ (c.flat (flat_bl _))⟩
    · exact k.elim
  · exact k.elim⟩
theorem oc_eqF (hu : X.A.units + 64 < cLine) : CmO X W .Eq gEqF := ⟨_, op_eqD hu, simO_eqF⟩
theorem oc_neF (hu : X.A.units + 64 < cLine) : CmO X W .NotEq gNeF := ⟨_, op_neD hu, simO_neF⟩
theorem gEqF_same {d e : D} {μ : Mu} {p : PyData} (h1 : toPy (fz μ d) = some p) (h2 : toPy (fz μ e) = some p) (h3 : SeqAt.shaped p = true) : gEqF d e μ = .val (.bl true) μ := by
  have hr := SeqAt.eqv_refl p (SeqAt.canLay_of_shaped h3)
  unfold gEqF
  rw [h1, h2]
  simp only
  rw [if_pos ⟨h3, h3⟩, hr]
theorem gNeF_same {d e : D} {μ : Mu} {p : PyData} (h1 : toPy (fz μ d) = some p) (h2 : toPy (fz μ e) = some p) (h3 : SeqAt.shaped p = true) : gNeF d e μ = .val (.bl false) μ := by
  have hr := SeqAt.eqv_refl p (SeqAt.canLay_of_shaped h3)
  unfold gNeF
  rw [h1, h2]
  simp only
  rw [if_pos ⟨h3, h3⟩, hr]
  rfl
end
end Dn
namespace Dn
open PySem PySem.Spec PyProof.Rows L2
/-! the laws' own numbers -/
def atZ (ns : List Int) (k : Int) : Int := (cellZ ns k % 1000000007 + 7919 * k * k + 31) * (48271 + 2 * k) % 2147483647
def mixedZ (c k : Int) : Int := (c / 3 + 104729 * k * k + 17) * (69621 + 6 * k) % 2147483647
theorem atZ_b (ns : List Int) (k : Int) : 0 ≤ atZ ns k ∧ atZ ns k < 2147483647 := by unfold atZ; omega
theorem mixedZ_b (c k : Int) : 0 ≤ mixedZ c k ∧ mixedZ c k < 2147483647 := by unfold mixedZ; omega
/-- k * k -/
theorem sq_b {k m : Int} (h0 : 0 ≤ k) (h1 : k ≤ m) : 0 ≤ k * k ∧ k * k ≤ m * m := ⟨Int.mul_nonneg h0 h0, Int.mul_le_mul h1 h1 h0 (by omega)⟩
theorem cutL_nat {α : Type} {zs : List α} {a b : Nat} (h1 : a ≤ b) (h2 : b ≤ zs.length) : cutL zs (some (a : Int)) (some (b : Int)) = (zs.drop a).take (b - a) := by
  unfold cutL
  rw [HT.sIx_nat, HT.sIx_nat, Nat.min_eq_left h2, Nat.min_eq_left (Nat.le_trans h1 h2)]
theorem cutL_mem {α : Type} {cs : List α} {lo hi : Option Int} {c : α} (h : c ∈ cutL cs lo hi) : c ∈ cs := by
  unfold cutL at h
  exact List.mem_of_mem_drop (List.mem_of_mem_take h)
section
variable {α : Type} {g : GT} {b : SF} {f : α → D} {xs : List α} {ρ : Ro} {μ : Mu}
theorem forD_ends {B : Ro → Mu → Prop} {R : D → Mu → Prop} (I : Nat → Ro → Mu → Prop) (h0 : I 0 ρ μ) (hs : ∀ (i : Nat) (x : α) (ρ : Ro) (μ : Mu), xs[i]? = some x → I i ρ μ → Ends3 (I (i + 1)) B R (turn g b (f x) ρ μ)) :
    LoopEnds (fun ρ μ => I xs.length ρ μ ∨ B ρ μ) R (forL g b (mapD f xs) ρ μ) := by
  have k := forL_ends (g := g) (b := b) (B := B) (R := R) (ds := mapD f xs) I h0 fun i d ρ μ hd hi => by
    rw [mapD_get, Option.map_eq_some_iff] at hd
    obtain ⟨x, hx, rfl⟩ := hd
    exact hs i x ρ μ hx hi
  rwa [mapD_length] at k
theorem forD_nx (I : Nat → Ro → Mu → Prop) (h0 : I 0 ρ μ) (hs : ∀ (i : Nat) (x : α) (ρ : Ro) (μ : Mu), xs[i]? = some x → I i ρ μ → ∃ ρ' μ', turn g b (f x) ρ μ = .nx ρ' μ' ∧ I (i + 1) ρ' μ') :
    ∃ ρ' μ', forL g b (mapD f xs) ρ μ = .nx ρ' μ' ∧ I xs.length ρ' μ' := by
  have k := forL_nx (g := g) (b := b) (ds := mapD f xs) I h0 fun i d ρ μ hd hi => by
    rw [mapD_get, Option.map_eq_some_iff] at hd
    obtain ⟨x, hx, rfl⟩ := hd
    exact hs i x ρ μ hx hi
  rwa [mapD_length] at k
theorem forN_nx {s n : Nat} (I : Nat → Ro → Mu → Prop) (h0 : I 0 ρ μ) (hs : ∀ (i : Nat) (ρ : Ro) (μ : Mu), i < n → I i ρ μ → ∃ ρ' μ', b (ρ.set s (some (.int (i : Int)))) μ = .nx ρ' μ' ∧ I (i + 1) ρ' μ') :
    ∃ ρ' μ', forL (gN s) b (mapD dn (List.range n)) ρ μ = .nx ρ' μ' ∧ I n ρ' μ' := by
  have k := forD_nx (g := gN s) (b := b) (f := dn) (xs := List.range n) I h0 fun i x ρ μ hx hi => by
    obtain ⟨h1, h2⟩ := List.getElem?_eq_some_iff.mp hx
    rw [List.getElem_range] at h2
    subst h2
    rw [List.length_range] at h1
    exact hs i ρ μ h1 hi
  rwa [List.length_range] at k
/-- at each item the loop leaves all that is asked for as it was, or it goes on -/
theorem forD_all (P : Ro → Mu → Prop) (h0 : P ρ μ) (hs : ∀ x ∈ xs, ∀ (ρ : Ro) (μ : Mu), P ρ μ → ∃ ρ' μ', turn g b (f x) ρ μ = .nx ρ' μ' ∧ P ρ' μ') : ∃ ρ' μ', forL g b (mapD f xs) ρ μ = .nx ρ' μ' ∧ P ρ' μ' :=
  forD_nx (fun _ => P) h0 fun i x ρ μ hx hi => hs x (List.mem_of_getElem? hx) ρ μ hi
end
end Dn

/-! Dn20: lists that were told, changed and kept beside what they were; pairs; a sign in a tuple of signs. -/
namespace Dn
open PySem PySem.Spec PyProof.Rows L2
section
variable {α : Type} {f : α → D} {μ : Mu}
/-! one sign in a tuple of signs -/
theorem inV_str (a : Str) (cs : List Str) : inV (.str a) (cs.map V.str) = decide (a ∈ cs) := by
  unfold inV
  rw [List.any_map, Bool.eq_iff_iff, List.any_eq_true, decide_eq_true_eq]
  constructor
  · rintro ⟨x, hx, e⟩
    have e : (x == a) = true := e
    rw [← eq_of_beq e]
    exact hx
  · intro hx
    exact ⟨a, hx, beq_self_eq_true a⟩
theorem flVs_str (cs : List Str) : flVs (cs.map D.str) = some (cs.map V.str) := flVs_map (f := D.str) (g := V.str) (fun _ => rfl) cs
theorem gIn_strs (a : Str) (cs : List Str) (μ : Mu) : gIn (.str a) (.tup (cs.map D.str)) μ = .val (.bl (decide (a ∈ cs))) μ := by
  unfold gIn orG gInF
  simp only [flV, sqOf, Option.bind_some, flVs_str, inV_str]
  rfl
theorem gNotIn_strs (a : Str) (cs : List Str) (μ : Mu) : gNotIn (.str a) (.tup (cs.map D.str)) μ = .val (.bl (!decide (a ∈ cs))) μ := by
  unfold gNotIn orG gInF
  simp only [flV, sqOf, Option.bind_some, flVs_str, inV_str]
  rfl
theorem txS_one (a b : Nat) : (txS [a] = txS [b]) = (a = b) := by
  refine propext ⟨fun e => ?_, fun e => by rw [e]⟩
  have : (txS [a]).cps = (txS [b]).cps := congrArg _ e
  have := congrArg Array.toList this
  simpa using this
theorem gIn_txs (c : Nat) (cs : List Nat) (μ : Mu) : gIn (tx [c]) (.tup (cs.map fun x => tx [x])) μ = .val (.bl (decide (c ∈ cs))) μ := by
  have e : (cs.map fun x => tx [x]) = (cs.map fun x => txS [x]).map D.str := by rw [List.map_map]; rfl
  rw [e, gIn_strs]
  congr 2
  rw [decide_eq_decide, List.mem_map]
  constructor
  · rintro ⟨x, hx, e⟩
    rw [txS_one] at e
    rw [← e]; exact hx
  · exact fun h => ⟨c, h, rfl⟩
/-! one sign is another -/
theorem eqT {s t : Nat} (q : s = t) (μ : Mu) : gEq (tx [s]) (tx [t]) μ = .val (.bl true) μ := by rw [gEq_tx, decide_eq_true (by rw [q])]
theorem eqF {s t : Nat} (q : ¬ s = t) (μ : Mu) : gEq (tx [s]) (tx [t]) μ = .val (.bl false) μ := by rw [gEq_tx, decide_eq_false (by simpa using q)]
theorem neT {s t : Nat} (q : ¬ s = t) (μ : Mu) : gNe (tx [s]) (tx [t]) μ = .val (.bl true) μ := by rw [gNe_tx, decide_eq_false (by simpa using q)]; rfl
theorem neF {s t : Nat} (q : s = t) (μ : Mu) : gNe (tx [s]) (tx [t]) μ = .val (.bl false) μ := by rw [gNe_tx, decide_eq_true (by rw [q])]; rfl
/-! what was told, and kept -/
abbrev prF (f : α → D) (p : Nat × List α) : D := .tup [.ref p.1, .lst (mapD f p.2)]
def KO (f : α → D) (kp N m : Nat) (μ : Mu) : Prop := ∃ ps : List (Nat × List α), μ[kp]? = some (.lst (mapD (prF f) ps)) ∧ ps.length ≤ m ∧ ∀ p ∈ ps, p.1 < N ∧ p.1 ≠ kp ∧ p.2.length ≤ 1000 ∧ μ[p.1]? = some (.lst (mapD f p.2))
theorem KO.mono {kp N N' m m' : Nat} (k : KO f kp N m μ) (h1 : N ≤ N') (h2 : m ≤ m') : KO f kp N' m' μ := by
  obtain ⟨ps, e1, e2, e3⟩ := k
  exact ⟨ps, e1, Nat.le_trans e2 h2, fun p hp => ⟨Nat.lt_of_lt_of_le (e3 p hp).1 h1, (e3 p hp).2⟩⟩
theorem KO.keep {kp N m : Nat} {μ' : Mu} (k : KO f kp N m μ) (hk : ∀ (i : Nat) (x : Nd), μ[i]? = some x → μ'[i]? = some x) : KO f kp N m μ' := by
  obtain ⟨ps, e1, e2, e3⟩ := k
  exact ⟨ps, hk _ _ e1, e2, fun p hp => ⟨(e3 p hp).1, (e3 p hp).2.1, (e3 p hp).2.2.1, hk _ _ (e3 p hp).2.2.2⟩⟩
theorem KO.lt {kp N m : Nat} (k : KO f kp N m μ) : kp < μ.length := by
  obtain ⟨ps, e, _⟩ := k
  exact get_lt e
theorem KO.len {kp N m : Nat} (k : KO f kp N m μ) : ∃ t : Nat, t ≤ m ∧ gLen [.ref kp] μ = .val (.int (t : Int)) μ := by
  obtain ⟨ps, e1, e2, e3⟩ := k
  refine ⟨ps.length, e2, ?_⟩
  simp [gLen, sqOf, lsOf, e1]
theorem KO.isL {kp N m : Nat} (k : KO f kp N m μ) : tyMt "list" (.ref kp) μ = true := by
  obtain ⟨ps, e, _⟩ := k
  simp only [tyMt, e]
  rfl
theorem KO.new : KO f μ.length N 0 (μ ++ [.lst []]) := ⟨[], get_new, Nat.le_refl _, fun p hp => by simp at hp⟩
/-- one.append(v); kept.append((one, list(one))) -/
theorem KO.tell {kp N m a : Nat} {xs : List α} (k : KO f kp N m μ) (hN : N ≤ a) (hk : a ≠ kp) (ha : μ[a]? = some (.lst (mapD f xs))) (hx : xs.length < 1000) (hm : m < 50000) (v : α) : ∃ μ' : Mu, KO f kp (a + 1) (m + 1) μ' ∧ (∀ (i : Nat) (x : Nd), i ≠ kp → i ≠ a → μ[i]? = some x → μ'[i]? = some x) ∧ μ'.length = μ.length ∧
    gAppend (.ref a) [f v] μ = .val .non (μ.set a (.lst (mapD f (xs ++ [v])))) ∧ (μ.set a (.lst (mapD f (xs ++ [v]))))[a]? = some (.lst (mapD f (xs ++ [v]))) ∧ KO f kp N m (μ.set a (.lst (mapD f (xs ++ [v])))) ∧
    gAppend (.ref kp) [.tup [.ref a, .lst (mapD f (xs ++ [v]))]] (μ.set a (.lst (mapD f (xs ++ [v])))) = .val .non μ' := by
  obtain ⟨ps, e1, e2, e3⟩ := k
  have hs : mapD f (xs ++ [v]) = mapD f xs ++ [f v] := (mapD_snoc (f := f)).symm
  have hp : mapD (prF f) (ps ++ [(a, xs ++ [v])]) = mapD (prF f) ps ++ [.tup [.ref a, .lst (mapD f (xs ++ [v]))]] := (mapD_snoc (f := prF f)).symm
  have g1 : (μ.set a (.lst (mapD f (xs ++ [v]))))[kp]? = some (.lst (mapD (prF f) ps)) := get_set e1 (Ne.symm hk)
  have g2 : (μ.set a (.lst (mapD f (xs ++ [v]))))[a]? = some (.lst (mapD f (xs ++ [v]))) := get_at ha
  refine ⟨(μ.set a (.lst (mapD f (xs ++ [v])))).set kp (.lst (mapD (prF f) (ps ++ [(a, xs ++ [v])]))), ⟨ps ++ [(a, xs ++ [v])], get_at g1, by rw [List.length_append]; show ps.length + 1 ≤ m + 1; omega, fun p hp' => ?_⟩, fun i x h1 h2 h3 => get_set (get_set h3 h2) h1, by simp, ?_, g2, ⟨ps, g1, e2, fun p hp' => ⟨(e3 p hp').1, (e3 p hp').2.1, (e3 p hp').2.2.1, get_set (e3 p hp').2.2.2 (by have := (e3 p hp').1; omega)⟩⟩, ?_⟩
  · rcases List.mem_append.mp hp' with hp' | hp'
    · obtain ⟨q1, q2, q3, q4⟩ := e3 p hp'
      exact ⟨by omega, q2, q3, get_set (get_set q4 (by omega)) q2⟩
    · rw [List.mem_singleton.mp hp']
      exact ⟨Nat.lt_succ_self a, hk, by simp; omega, get_set g2 hk⟩
  · have hz : (mapD f xs).length < 100000 := by rw [mapD_length]; omega
    rw [hs]
    simp only [gAppend, ha, if_pos hz]
  · have hz : (mapD (prF f) ps).length < 100000 := by rw [mapD_length]; omega
    rw [hp]
    simp only [gAppend, g1, if_pos hz]
theorem KO.same {kp N m : Nat} (k : KO f kp N m μ) {g : α → PyData} (hg : ∀ x, toPy (f x) = some (g x)) (hs : ∀ xs : List α, SeqAt.shaped (.list (xs.map g)) = true) : ∃ ps : List (Nat × List α), μ[kp]? = some (.lst (mapD (prF f) ps)) ∧ ps.length ≤ m ∧ ∀ p ∈ ps, gNe (.ref p.1) (.lst (mapD f p.2)) μ = .val (.bl false) μ := by
  obtain ⟨ps, e1, e2, e3⟩ := k
  refine ⟨ps, e1, e2, fun p hp => ?_⟩
  obtain ⟨_, _, _, g1⟩ := e3 p hp
  have e0 : toPy (.lst (mapD f p.2)) = some (.list (p.2.map g)) := by simp only [toPy, toPyL_map hg, Option.map_some]
  exact gNe_same ((topPy_ref g1).trans e0) e0 (hs p.2)
theorem gList_ref {a : Nat} {xs : List D} (e : μ[a]? = some (.lst xs)) : gList [.ref a] μ = .val (.lst xs) μ := by
  simp [gList, sqOf, lsOf, e]
theorem isL_ref {a : Nat} {xs : List D} (e : μ[a]? = some (.lst xs)) : tyMt "list" (.ref a) μ = true := by
  simp only [tyMt, e]
  rfl
theorem ref_same {a : Nat} {xs : List α} {g : α → PyData} (e : μ[a]? = some (.lst (mapD f xs))) (hg : ∀ x, toPy (f x) = some (g x)) (hs : SeqAt.shaped (.list (xs.map g)) = true) : gNe (.ref a) (.lst (mapD f xs)) μ = .val (.bl false) μ := by
  have e0 : toPy (.lst (mapD f xs)) = some (.list (xs.map g)) := by simp only [toPy, toPyL_map hg, Option.map_some]
  exact gNe_same ((topPy_ref e).trans e0) e0 hs
/-! pairs of small numbers -/
abbrev pn : Nat × Nat → D := fun p => .tup [.int (p.1 : Int), .int (p.2 : Int)]
abbrev pnP : Nat × Nat → PyData := fun p => .tuple [.int (p.1 : Int), .int (p.2 : Int)]
theorem toPy_pn (x : Nat × Nat) : toPy (pn x) = some (pnP x) := rfl
theorem shaped_pn (ks : List (Nat × Nat)) : SeqAt.shaped (.list (ks.map pnP)) = true := by
  have h1 : PyData.canLayAll0 (ks.map pnP) = true := lay_map fun x _ => by simp
  have h2 : PyData.depthAll (ks.map pnP) ≤ 1 := dep_map fun x _ => by simp
  simp [h1]
  omega
theorem nfL_pn (ks : List (Nat × Nat)) : nfL (mapD pn ks) = true := mapD_nf fun _ => by simp
theorem fzL_pn (μ : Mu) (ks : List (Nat × Nat)) : fzL μ (mapD pn ks) = mapD pn ks := mapD_fz fun _ => by simp
end
/-- a loop whose turns end, or go on at once -/
theorem forD_go {α : Type} {g : GT} {b : SF} {f : α → D} {xs : List α} {ρ : Ro} {μ : Mu} (I : Nat → Ro → Mu → Prop) (h0 : I 0 ρ μ) (hs : ∀ (i : Nat) (x : α) (ρ : Ro) (μ : Mu), xs[i]? = some x → I i ρ μ → ∃ ρ' μ', (turn g b (f x) ρ μ = .nx ρ' μ' ∨ turn g b (f x) ρ μ = .ct ρ' μ') ∧ I (i + 1) ρ' μ') :
    ∃ ρ' μ', forL g b (mapD f xs) ρ μ = .nx ρ' μ' ∧ I xs.length ρ' μ' := by
  have h := forD_ends (g := g) (b := b) (f := f) (xs := xs) (B := fun _ _ => False) (R := fun _ _ => False) I h0 fun i x ρ μ hx hi => by
    obtain ⟨ρ', μ', e | e, k⟩ := hs i x ρ μ hx hi <;> rw [e] <;> exact k
  cases e : forL g b (mapD f xs) ρ μ with
  | nx ρ' μ' => rw [e] at h; exact ⟨ρ', μ', rfl, h.resolve_right id⟩
  | _ => rw [e] at h; exact h.elim
/-- nothing is left of a sieve -/
theorem filter_none {α : Type} (xs : List α) : xs.filter (fun _ => false) = [] := by
  rw [List.filter_eq_nil_iff]
  intro x _
  simp
end Dn

/-! Dn28: walks that go or end, by a step of plain Lean; comprehensions whose memory grows. -/
namespace Dn
open PySem PySem.Spec PyProof.Rows L2
def Stop : Out → Prop
  | .ret _ _ => True
  | .exc _ _ _ => True
  | _ => False
def walkW {α S : Type} (st : α → S → Option S) : List α → S → Option S
  | [], s => some s
  | d :: r, s => (st d s).bind (walkW st r)
theorem walkW_cons {α S : Type} {st : α → S → Option S} {d : α} {r : List α} {s : S} : walkW st (d :: r) s = (st d s).bind (walkW st r) := rfl
/-- what a step of the walk must be -/
def StepO {S : Type} (I : S → Ro → Mu → Prop) (E : Out → Prop) (o : Option S) (t : Out) : Prop := match o with
  | some s' => ∃ ρ' μ', (t = .nx ρ' μ' ∨ t = .ct ρ' μ') ∧ I s' ρ' μ'
  | none => Stop t ∧ E t
def EndO {S : Type} (I : S → Ro → Mu → Prop) (E : Out → Prop) (o : Option S) (t : Out) : Prop := match o with
  | some s' => ∃ ρ' μ', t = .nx ρ' μ' ∧ I s' ρ' μ'
  | none => Stop t ∧ E t
theorem forL_run {α S : Type} {g : GT} {b : SF} {f : α → D} {st : α → S → Option S} (I : S → Ro → Mu → Prop) (E : Out → Prop) : ∀ {ds : List α}, (∀ d ∈ ds, ∀ s ρ μ, I s ρ μ → StepO I E (st d s) (turn g b (f d) ρ μ)) → ∀ {s : S} {ρ : Ro} {μ : Mu}, I s ρ μ → EndO I E (walkW st ds s) (forL g b (mapD f ds) ρ μ)
  | [], _, s, ρ, μ, h => ⟨ρ, μ, rfl, h⟩
  | d :: ds, hs, s, ρ, μ, h => by
    have h1 := hs d List.mem_cons_self s ρ μ h
    rw [mapD_cons, forL_turn, walkW_cons]
    cases e : st d s with
    | none =>
      rw [e] at h1
      obtain ⟨h1, h2⟩ := h1
      rw [Option.bind_none]
      cases t : turn g b (f d) ρ μ <;> rw [t] at h1 h2 <;> first | exact h1.elim | exact ⟨trivial, h2⟩
    | some s1 =>
      rw [e] at h1
      obtain ⟨ρ1, μ1, t, h2⟩ := h1
      rw [Option.bind_some]
      have ih := forL_run I E (ds := ds) (fun d m => hs d (List.mem_cons_of_mem _ m)) h2
      rcases t with t | t <;> rw [t] <;> exact ih
/-- the same, with the turn's number -/
theorem forL_runI {α S : Type} {g : GT} {b : SF} {f : α → D} {st : α → S → Option S} (E : Out → Prop) : ∀ {ds : List α} (I : Nat → S → Ro → Mu → Prop), (∀ i d, ds[i]? = some d → ∀ s ρ μ, I i s ρ μ → StepO (I (i + 1)) E (st d s) (turn g b (f d) ρ μ)) → ∀ {s : S} {ρ : Ro} {μ : Mu}, I 0 s ρ μ → EndO (I ds.length) E (walkW st ds s) (forL g b (mapD f ds) ρ μ)
  | [], I, _, s, ρ, μ, h => ⟨ρ, μ, rfl, h⟩
  | d :: ds, I, hs, s, ρ, μ, h => by
    have h1 := hs 0 d rfl s ρ μ h
    rw [mapD_cons, forL_turn, walkW_cons]
    cases e : st d s with
    | none =>
      rw [e] at h1
      obtain ⟨h1, h2⟩ := h1
      rw [Option.bind_none]
      cases t : turn g b (f d) ρ μ <;> rw [t] at h1 h2 <;> first | exact h1.elim | exact ⟨trivial, h2⟩
    | some s1 =>
      rw [e] at h1
      obtain ⟨ρ1, μ1, t, h2⟩ := h1
      rw [Option.bind_some]
      have ih := forL_runI E (ds := ds) (fun i => I (i + 1)) (fun i d m => hs (i + 1) d m) h2
      rcases t with t | t <;> rw [t] <;> exact ih
/-- a test alone -/
theorem walkW_all {α : Type} {P : α → Bool} : ∀ (ds : List α), walkW (fun d (_ : Unit) => if P d = true then some () else none) ds () = if ds.all P = true then some () else none
  | [] => rfl
  | d :: ds => by
    rw [walkW_cons, List.all_cons]
    cases q : P d with
    | false => rfl
    | true => simpa using walkW_all (P := P) ds
theorem compL_grow {α : Type} {s : Nat} {tt : TF} {te : EF} {ρ : Ro} {M : Mu} {f h : α → D} {q : α → Bool} : ∀ {xs : List α} {acc : List D} {ν : Mu}, (∀ x ∈ xs, ∀ ν, ∃ ν', tt (ρ.set s (some (f x))) (M ++ ν) = .val (q x) (M ++ ν')) → (∀ x ∈ xs, q x = true → ∀ ν, te (ρ.set s (some (f x))) (M ++ ν) = .val (h x) (M ++ ν)) →
    ∃ ν', compL (gN s) tt te ρ (mapD f xs) (M ++ ν) acc = .val (acc ++ mapD h (xs.filter q)) (M ++ ν')
  | [], acc, ν, _, _ => ⟨ν, by simp⟩
  | d :: ds, acc, ν, h1, h2 => by
    rw [mapD_cons]
    obtain ⟨ν1, g1⟩ := h1 d List.mem_cons_self ν
    cases e : q d with
    | true =>
      have g2 := h2 d List.mem_cons_self e ν1
      obtain ⟨ν2, ih⟩ := compL_grow (s := s) (tt := tt) (te := te) (ρ := ρ) (M := M) (f := f) (h := h) (q := q) (xs := ds) (acc := acc ++ [h d]) (ν := ν1) (fun d m => h1 d (List.mem_cons_of_mem _ m)) fun d m => h2 d (List.mem_cons_of_mem _ m)
      refine ⟨ν2, ?_⟩
      rw [compL_cons]
      simp [g1, e, g2, ih, mapD_cons]
    | false =>
      obtain ⟨ν2, ih⟩ := compL_grow (s := s) (tt := tt) (te := te) (ρ := ρ) (M := M) (f := f) (h := h) (q := q) (xs := ds) (acc := acc) (ν := ν1) (fun d m => h1 d (List.mem_cons_of_mem _ m)) fun d m => h2 d (List.mem_cons_of_mem _ m)
      refine ⟨ν2, ?_⟩
      rw [compL_cons]
      simp [g1, e, ih]
theorem seq_nx {a b : SF} {ρ ρ1 : Ro} {μ μ1 : Mu} (h : a ρ μ = .nx ρ1 μ1) : sSeq a b ρ μ = b ρ1 μ1 := by
  unfold sSeq
  rw [h]
theorem gAdd_lst {xs ys : List D} (h : xs.length + ys.length ≤ 100000) (μ : Mu) : gAddA (.lst xs) (.lst ys) μ = .val (.lst (xs ++ ys)) μ := by
  unfold gAddA orG gI gCatS gCat
  simp only [lsOf]
  rw [if_pos h]
theorem gAdd_refl {r : Nat} {μ : Mu} {xs ys : List D} (hr : μ[r]? = some (.lst xs)) (h : xs.length + ys.length ≤ 100000) : gAddA (.ref r) (.lst ys) μ = .val (.lst (xs ++ ys)) μ := by
  unfold gAddA orG gI gCatS gCat
  simp only [lsOf, hr]
  rw [if_pos h]
/-- what was there stays -/
def Kp (μ μ' : Mu) : Prop := (∀ (i : Nat) (x : Nd), μ[i]? = some x → μ'[i]? = some x) ∧ μ.length ≤ μ'.length
theorem Kp.rfl {μ : Mu} : Kp μ μ := ⟨fun _ _ e => e, Nat.le_refl _⟩
theorem Kp.trans {a b c : Mu} (h : Kp a b) (k : Kp b c) : Kp a c := ⟨fun i x e => k.1 i x (h.1 i x e), Nat.le_trans h.2 k.2⟩
theorem Kp.app {μ : Mu} (ν : Mu) : Kp μ (μ ++ ν) := ⟨fun i x e => get_old e, by simp⟩
theorem Kp.put {μ μ1 : Mu} {p : Nat} {x : Nd} (h : Kp μ μ1) (hp : μ.length ≤ p) : Kp μ (μ1.set p x) := ⟨fun i y e => get_set (h.1 i y e) (by have := get_lt e; omega), by rw [List.length_set]; exact h.2⟩
end Dn

/-! Dn29: < and <= of tuples of ints. -/
namespace Dn
open PySem PySem.Spec PyProof.Rows L2
@[simp] def intsD : List D → Option (List Int)
  | [] => some []
  | .int i :: r => (intsD r).map (i :: ·)
  | _ => none
@[simp] theorem intsD_map (ns : List Int) : intsD (mapD D.int ns) = some ns := by
  induction ns with
  | nil => rfl
  | cons n r ih => rw [mapD_cons]; simp [ih]
section
variable {K : PySem.W.Frag} {S : Hp} {ad : Ad}
theorem intsD_at : ∀ {ds : List D} {vs : List V} {ys : List Int}, RpL K S ad vs ds → intsD ds = some ys → vs = ys.map V.int
  | [], _, _, r, h => by cases r; cases h; rfl
  | d :: ds, _, _, r, h => by
    cases r with
    | cons r1 r2 =>
      cases d <;> simp only [intsD] at h <;> first | cases h | skip
      rw [Option.map_eq_some_iff] at h
      obtain ⟨zs, h1, rfl⟩ := h
      cases r1
      rw [intsD_at r2 h1]
      rfl
end
/-- by their order -/
def ltT (ns ms : List Int) : Bool := HT.lexLt ns ms
def leT (ns ms : List Int) : Bool := !HT.lexLt ms ns
theorem leT_eq : ∀ (ns ms : List Int), Ob.lexAt (fun j => decide (ns.getD j 0 = ms.getD j 0)) (fun j => decide (ns.getD j 0 ≤ ms.getD j 0)) (decide (ns.length ≤ ms.length)) 0 (min ns.length ms.length) = leT ns ms := by
  have key : ∀ (as bs : List Int) (ns ms : List Int), Ob.lexAt (fun j => decide ((as ++ ns).getD j 0 = (bs ++ ms).getD j 0)) (fun j => decide ((as ++ ns).getD j 0 ≤ (bs ++ ms).getD j 0)) (decide (ns.length ≤ ms.length)) as.length (min ns.length ms.length) = !HT.lexLt ms ns ∨ as.length ≠ bs.length := fun as bs ns => by
    induction ns generalizing as bs with
    | nil =>
      intro ms
      left
      rw [List.length_nil, Nat.zero_min, Ob.lexAt_zero, decide_eq_true (Nat.zero_le _)]
      cases ms <;> rfl
    | cons n ns ih =>
      intro ms
      by_cases hl : as.length = bs.length
      · left
        cases ms with
        | nil => rfl
        | cons m ms =>
          have e1 : (as ++ n :: ns).getD as.length 0 = n := by simp [List.getD_eq_getElem?_getD]
          have e2 : (bs ++ m :: ms).getD as.length 0 = m := by rw [hl]; simp [List.getD_eq_getElem?_getD]
          rw [List.length_cons, List.length_cons, Nat.add_min_add_right, Ob.lexAt_succ]
          simp only [e1, e2, HT.lexLt_cons, decide_eq_true_eq]
          by_cases h : n = m
          · rw [if_pos h, if_pos h.symm]
            have := ih (as ++ [n]) (bs ++ [m]) ms
            simp only [List.append_assoc, List.cons_append, List.nil_append, List.length_append, List.length_cons, List.length_nil] at this
            rcases this with this | this
            · rw [show decide (ns.length + 1 ≤ ms.length + 1) = decide (ns.length ≤ ms.length) from decide_eq_decide.mpr (by omega)]
              exact this
            · exact absurd (by omega) this
          · rw [if_neg h, if_neg fun z => h z.symm]
            rw [Bool.eq_iff_iff, decide_eq_true_eq, Bool.not_eq_true', decide_eq_false_iff_not]
            omega
      · exact .inr hl
  intro ns ms
  have := key [] [] ns ms
  exact this.resolve_right (by simp)
def gLtT : GF := fun d e μ => match d, e with
  | .tup a, .tup b => (match intsD a, intsD b with
    | some ns, some ms => .val (.bl (ltT ns ms)) μ
    | _, _ => .fail)
  | _, _ => .fail
def gLeT : GF := fun d e μ => match d, e with
  | .tup a, .tup b => (match intsD a, intsD b with
    | some ns, some ms => .val (.bl (leT ns ms)) μ
    | _, _ => .fail)
  | _, _ => .fail
theorem simO_ltT {K : PySem.W.Frag} {W : WX} : SimO K W (rLtT K) gLtT := ⟨fun {H0 S0 ad0 tmp ρ μ σ H Q x y d e} R k => by
  obtain ⟨S, ad, c, r1, r2⟩ := R.two
  unfold gLtT at k
  split at k
  · rename_i ys zs
    split at k
    · rename_i ns ms hn hm
      cases r1 with
      | tup h1 q1 =>
      cases r2 with
      | tup h2 q2 =>
        rw [intsD_at q1 hn] at h1
        rw [intsD_at q2 hm] at h2
        exact ⟨_, _, ns, ms, rfl, rfl, .of (c.sh _ _ h1), .of (c.sh _ _ h2), k _ _ (c.flat (flat_bl _))⟩
    · exact k.elim
  · exact k.elim⟩
theorem simO_leT {K : PySem.W.Frag} {W : WX} : SimO K W (rLeT K) gLeT := ⟨fun {H0 S0 ad0 tmp ρ μ σ H Q x y d e} R k => by
  obtain ⟨S, ad, c, r1, r2⟩ := R.two
  unfold gLeT at k
  split at k
  · rename_i ys zs
    split at k
    · rename_i ns ms hn hm
      cases r1 with
      | tup h1 q1 =>
      cases r2 with
      | tup h2 q2 =>
        rw [intsD_at q1 hn] at h1
        rw [intsD_at q2 hm] at h2
        refine ⟨_, _, ns, ms, rfl, rfl, .of (c.sh _ _ h1), .of (c.sh _ _ h2), ?_⟩
        rw [leT_eq]
        exact k _ _ (c.flat (flat_bl _))
    · exact k.elim
  · exact k.elim⟩
def gLtA : GF := orG gLt gLtT
def gLeA : GF := orG gLe gLeT
theorem oc_ltA {X : Cx} {W : WX} (hu : X.A.units < cLine) : CmO X W .Lt gLtA := CmO.or oc_lt ⟨_, op_ltT hu, simO_ltT⟩
theorem oc_leA {X : Cx} {W : WX} (hu : X.A.units < cLine) : CmO X W .LtE gLeA := CmO.or oc_le ⟨_, op_leT hu, simO_leT⟩
@[simp] theorem gLtA_int {i j : Int} {μ : Mu} : gLtA (.int i) (.int j) μ = .val (.bl (decide (i < j))) μ := rfl
@[simp] theorem gLeA_int {i j : Int} {μ : Mu} : gLeA (.int i) (.int j) μ = .val (.bl (decide (i ≤ j))) μ := rfl
/-- a tuple of ints -/
abbrev tuI (ns : List Int) : D := .tup (mapD D.int ns)
@[simp] theorem gLtA_tup (ns ms : List Int) (μ : Mu) : gLtA (tuI ns) (tuI ms) μ = .val (.bl (ltT ns ms)) μ := by
  unfold gLtA
  rw [orG_fail (show gLt (tuI ns) (tuI ms) μ = .fail from rfl)]
  simp [gLtT]
@[simp] theorem gLeA_tup (ns ms : List Int) (μ : Mu) : gLeA (tuI ns) (tuI ms) μ = .val (.bl (leT ns ms)) μ := by
  unfold gLeA
  rw [orG_fail (show gLe (tuI ns) (tuI ms) μ = .fail from rfl)]
  simp [gLeT]
theorem units0 {k : Nat} {A : Around} (r : Room k A) : A.units < cLine := by have := r.un; omega
end Dn

/-! Dn30: sorted of tuples of ints of any sizes, none empty. -/
namespace Dn
open PySem PySem.Spec PyProof.Rows L2
/-- the value is a tuple of these ints -/
def TuAt (hp : Heap) (v : Value) (ns : List Int) : Prop := ∃ (b : Addr) (its : List Value), v = .ref b ∧ IsTup hp b its.toArray ∧ IntsAre its ns
section
variable {prog : Program} {w : World} {A : Around} {s : Shared}
theorem TuAt.keeps {hp hp' : Heap} {v : Value} {ns : List Int} (x : TuAt hp v ns) (k : ∀ (b : Addr) (o : Obj), hp.get? b = some o → o.cls = .type "tuple" → hp'.get? b = some o) : TuAt hp' v ns := by
  obtain ⟨b, its, e, ⟨o, g, c, n, d⟩, i⟩ := x
  exact ⟨b, its, e, ⟨o, k b o g c, c, n, d⟩, i⟩
/-- the rows of two tuples, from some place on -/
theorem lexGo {b : Bool} : ∀ {us vs : List Value} {ns ms : List Int} (j : Nat), IntsAre us ns → IntsAre vs ms → PySem.W.KatLex prog w A b (decide (ns.length < ms.length)) (fun z s2 => s2 = s ∧ z = ltT ns ms) (us.zip vs) j s
  | _, _, _, [], j, .nil, .nil => PySem.W.kat_nil ⟨rfl, rfl⟩
  | _, _, _, m :: ms, j, .nil, .cons _ _ r => PySem.W.kat_nil ⟨rfl, by simp [ltT, HT.lexLt]⟩
  | _, _, n :: ns, _, j, .cons _ _ r, .nil => PySem.W.kat_nil ⟨rfl, by simp [ltT, HT.lexLt]⟩
  | _, _, n :: ns, m :: ms, j, .cons _ t ru, .cons _ t2 rv => by
    have hlen : decide ((n :: ns).length < (m :: ms).length) = decide (ns.length < ms.length) := decide_eq_decide.mpr (by simp)
    rw [hlen]
    have eqs : ltT (n :: ns) (m :: ms) = if n = m then ltT ns ms else decide (n < m) := rfl
    rw [eqs]
    apply PySem.W.kat_cons
    apply SeqAt.EqAt.int_int n t m t2 prog w _ _
    by_cases h : n = m
    · rw [if_pos h, show (n == m) = true by simp [h]]
      exact PySem.W.kat_yes (lexGo (j + 1) ru rv)
    · rw [if_neg h, show (n == m) = false by simp [h]]
      exact PySem.W.kat_no (TS.oneLt_ints _ ⟨rfl, rfl⟩)
theorem tuCmp {us : List Value} {k : Value → List Int} (hu : ∀ u ∈ us, TuAt s.heap u (k u)) : SrtO.Cmp prog w A s (tuples' true) (fun p => p.1 ∈ us) (SrtO.lt2 fun x y => ltT (k x) (k y)) := fun p q mp mq => by
  obtain ⟨b1, its1, e1, ⟨o1, g1, c1, n1, d1⟩, i1⟩ := hu _ mp
  obtain ⟨b2, its2, e2, ⟨o2, g2, c2, n2, d2⟩, i2⟩ := hu _ mq
  show wpAny (model prog w) A (keyLt' (tuples' true) p.1 q.1) (fun z s2 => s2 = s ∧ z = ltT (k p.1) (k q.1)) (fun _ _ => False) s
  have hl : decide (its1.toArray.size < its2.toArray.size) = decide ((k p.1).length < (k q.1).length) := by
    have a := i1.length
    have b := i2.length
    exact decide_eq_decide.mpr (by simp only [List.size_toArray]; omega)
  generalize k p.1 = ns at *
  generalize k q.1 = ms at *
  rw [e1, e2]
  apply PySem.W.kat_lt g1 d1 g2 d2
  rw [hl]
  exact lexGo 0 i1 i2
theorem tuFirsts : ∀ {us : List Value} {k : Value → List Int}, (∀ u ∈ us, TuAt s.heap u (k u) ∧ k u ≠ []) → ∃ fs, PySem.W.KatTups s.heap us fs ∧ fs.length = us.length ∧ ∀ f ∈ fs, ∃ i t, f = Value.int i t
  | [], _, _ => ⟨[], .nil, rfl, fun f m => by cases m⟩
  | u :: us, k, hu => by
    obtain ⟨fs, h1, h2, h3⟩ := tuFirsts (us := us) (k := k) fun y m => hu y (List.mem_cons_of_mem _ m)
    obtain ⟨⟨b, its, e, ⟨o, g, c, n, d⟩, i⟩, hne⟩ := hu u List.mem_cons_self
    generalize k u = ns at i hne
    cases i with
    | nil => exact absurd rfl hne
    | cons z t r =>
      subst e
      exact ⟨.int z t :: fs, .cons g c d rfl h1, by simp [h2], fun f m => by
        rcases List.mem_cons.mp m with rfl | m
        · exact ⟨z, t, rfl⟩
        · exact h3 f m⟩
theorem tuSortable {a : Addr} {us : List Value} {k : Value → List Int} (h0 : 0 < us.length) (hu : ∀ u ∈ us, TuAt s.heap u (k u) ∧ k u ≠ []) (ha : ∀ o, s.heap.get? a = some o → o.cls ≠ .type "tuple") : SrtO.SortableO prog w A s a us fun x y => ltT (k x) (k y) := fun hp' keep => by
  have hu2 : ∀ u ∈ us, TuAt hp' u (k u) ∧ k u ≠ [] := fun u m => ⟨(hu u m).1.keeps fun b o g c => keep b o (fun z => ha o (by rw [← z]; exact g) c) g, (hu u m).2⟩
  obtain ⟨fs, f1, f2, f3⟩ := tuFirsts (s := { s with heap := hp' }) hu2
  refine ⟨tuples' true, fun Q E hq => ?_, tuCmp (s := { s with heap := hp' }) fun u m => (hu2 u m).1⟩
  apply PySem.W.kat_kind (T := .type "int") f1 (by omega) _ (by rfl)
  · rw [show (Value.type "int" != Value.type "tuple") = true by decide +kernel]
    exact hq
  · intro f m
    obtain ⟨i, t, rfl⟩ := f3 f m
    exact PySem.W.Looks.now
end
/-- sorted(xs): xs a list of tuples of ints (k says which) -/
def rSortedM (K : PySem.W.Frag) : List V → Hp → VK → Prop := fun vs H Q => ∃ (a : Addr) (xs : List V) (k : V → List Int), vs = [V.ref a] ∧ SqL K H a xs ∧ (∀ x ∈ xs, k x ≠ [] ∧ ∃ t, x = V.ref t ∧ SqT K H t ((k x).map V.int)) ∧
  ∀ ys p, ys.Perm xs → ys.Pairwise (fun x y => ltT (k y) (k x) = false) → H p = none → Q (.ref p) (upd H p (.lst ys))
theorem cr_sortedM {X : Cx} : CallR X (.builtin "sorted") (rSortedM X.K) := fun pins s σ H vs us Q I rs h => by
  obtain ⟨a, xs, k, rfl, hs, hx, q⟩ := h
  obtain ⟨its, rv, pl, sz⟩ := I.list hs
  obtain ⟨u, eu, ru⟩ := vals1 rs
  subst eu
  cases ru
  obtain ⟨e1, e2⟩ := refs_back rv fun x m => let ⟨_, t, e, _⟩ := hx x m; ⟨t, e⟩
  have tu : ∀ u ∈ its, TuAt s.heap u (k (backV u)) ∧ k (backV u) ≠ [] := fun u m => by
    obtain ⟨t, rfl⟩ := e2 u m
    have hm : V.ref t ∈ xs := by rw [e1]; exact List.mem_map_of_mem m
    obtain ⟨hne, t2, et, ht⟩ := hx _ hm
    cases et
    obtain ⟨vs2, r2, p2, _⟩ := I.tuple ht
    exact ⟨⟨t, vs2, rfl, p2, Vals.ints r2⟩, hne⟩
  have hz : its.length ≤ sizeLine := by rw [← rv.length]; exact sz
  apply SrtO.sorted_ord (NtL.swo_lexL fun u => k (backV u)) pl.isList hz
  · intro h2 hp' d hd kk
    apply tuSortable (s := { s with heap := hp' }) (k := fun u => k (backV u)) (by omega)
    · exact fun u m => ⟨(tu u m).1.keeps fun b o g _ => (kk b o g).2, (tu u m).2⟩
    · intro o go c
      have e := Option.some.inj (hd.symm.trans go)
      rw [← e] at c
      exact absurd (Value.type.inj c) (by decide)
  · intro out so st
    have oref : ∀ u ∈ out, ∃ b, u = Value.ref b := fun u m => e2 u (st.perm.mem_iff.mp m)
    have pm : (out.map backV).Perm xs := by
      rw [e1]
      exact st.perm.map backV
    obtain ⟨ep, ge⟩ := sortedAll_at s.heap its out.toArray
    refine ⟨.ref (s.heap.objs.size + 1), upd H (s.heap.objs.size + 1) (.lst (out.map backV)), I.laid (t' := s.toks) (fun b o g => sortedAll_old g) (Nat.le_succ _) ⟨?_, out, ep, vals_back oref, ge⟩, rfl, q _ _ pm (List.pairwise_map.mpr so) (I.hok.fresh (Nat.le_succ _))⟩
    rw [pm.length_eq]
    exact sz
end Dn

/-! Dn31: min of tuples of ints; sorted and min as equations. -/
namespace Dn
open PySem PySem.Spec PyProof.Rows L2
/-! the order -/
theorem ltT_asym {a b : List Int} (h : ltT a b = true) : ltT b a = false := NtL.lex_asym a b h
theorem leT_trans {a b c : List Int} (h1 : leT a b = true) (h2 : leT b c = true) : leT a c = true := by
  unfold leT at *
  rw [Bool.not_eq_true'] at *
  exact NtL.lex_tr a b c h1 h2
theorem leT_total (a b : List Int) : (leT a b || leT b a) = true := by
  unfold leT
  cases h : HT.lexLt b a with
  | false => rfl
  | true => rw [NtL.lex_asym _ _ h]; rfl
theorem leT_refl (a : List Int) : leT a a = true := by have := leT_total a a; simpa using this
theorem leT_anti : ∀ {a b : List Int}, leT a b = true → leT b a = true → a = b
  | [], [], _, _ => rfl
  | [], _ :: _, _, h => by simp [leT, HT.lexLt] at h
  | _ :: _, [], h, _ => by simp [leT, HT.lexLt] at h
  | x :: a, y :: b, h1, h2 => by
    simp only [leT, HT.lexLt, Bool.not_eq_true'] at h1 h2
    by_cases e : x = y
    · rw [if_pos e.symm] at h1
      rw [if_pos e] at h2
      rw [e, leT_anti (a := a) (b := b) (by simp [leT, h1]) (by simp [leT, h2])]
    · rw [if_neg fun z => e z.symm, decide_eq_false_iff_not] at h1
      rw [if_neg e, decide_eq_false_iff_not] at h2
      omega
theorem leT_of_not {a b : List Int} (h : ltT a b = false) : leT b a = true := by unfold leT; unfold ltT at h; rw [h]; rfl
theorem ltT_not {a b : List Int} (h : leT b a = true) : ltT a b = false := by unfold leT at h; unfold ltT; simpa using h
theorem ltT_leT {a b : List Int} (h : ltT a b = true) : leT a b = true := by
  unfold leT
  rw [Bool.not_eq_true']
  exact NtL.lex_asym _ _ h
/-- in order -/
def sortT (nss : List (List Int)) : List (List Int) := nss.mergeSort leT
theorem sortT_perm (nss : List (List Int)) : (sortT nss).Perm nss := List.mergeSort_perm nss leT
theorem sortT_up (nss : List (List Int)) : (sortT nss).Pairwise fun a b => leT a b = true := List.pairwise_mergeSort (le := leT) (fun _ _ _ h1 h2 => leT_trans h1 h2) leT_total nss
theorem sortT_uniq {as bs : List (List Int)} (h : as.Perm bs) (hu : as.Pairwise fun a b => leT a b = true) : as = sortT bs :=
  List.Perm.eq_of_pairwise (fun a b _ _ h1 h2 => leT_anti h1 h2) hu (sortT_up bs) (h.trans (sortT_perm bs).symm)
/-- the least one -/
def minT : List (List Int) → List Int
  | [] => []
  | a :: as => as.foldl (fun m y => if ltT y m = true then y else m) a
theorem foldMin (as : List (List Int)) : ∀ a : List Int, (as.foldl (fun m y => if ltT y m = true then y else m) a ∈ a :: as) ∧ ∀ y ∈ a :: as, leT (as.foldl (fun m y => if ltT y m = true then y else m) a) y = true := by
  induction as with
  | nil =>
    intro a
    refine ⟨List.mem_cons_self, fun y hy => ?_⟩
    rw [List.mem_singleton.mp hy]
    exact leT_refl a
  | cons b bs ih =>
    intro a
    rw [List.foldl_cons]
    by_cases h : ltT b a = true
    · rw [if_pos h]
      obtain ⟨i1, i2⟩ := ih b
      refine ⟨List.mem_cons_of_mem _ i1, fun y hy => ?_⟩
      rcases List.mem_cons.mp hy with rfl | hy
      · exact leT_trans (i2 b List.mem_cons_self) (ltT_leT h)
      · exact i2 y hy
    · rw [if_neg h]
      obtain ⟨i1, i2⟩ := ih a
      refine ⟨?_, fun y hy => ?_⟩
      · rcases List.mem_cons.mp i1 with e | i1
        · rw [e]; exact List.mem_cons_self
        · exact List.mem_cons_of_mem _ (List.mem_cons_of_mem _ i1)
      · rcases List.mem_cons.mp hy with rfl | hy
        · exact i2 y List.mem_cons_self
        · rcases List.mem_cons.mp hy with rfl | hy
          · exact leT_trans (i2 a List.mem_cons_self) (leT_of_not (Bool.eq_false_iff.mpr h))
          · exact i2 y (List.mem_cons_of_mem _ hy)
theorem minT_mem {as : List (List Int)} (h : as ≠ []) : minT as ∈ as := by
  cases as with
  | nil => exact absurd rfl h
  | cons a as => exact (foldMin as a).1
theorem minT_le {as : List (List Int)} {y : List Int} (h : y ∈ as) : leT (minT as) y = true := by
  cases as with
  | nil => cases h
  | cons a as => exact (foldMin as a).2 y h
theorem minT_uniq {as : List (List Int)} {m : List Int} (h1 : m ∈ as) (h2 : ∀ y ∈ as, leT m y = true) : m = minT as :=
  leT_anti (h2 _ (minT_mem fun z => by rw [z] at h1; cases h1)) (minT_le h1)
/-! min(xs) -/
def rMinM (K : PySem.W.Frag) : List V → Hp → VK → Prop := fun vs H Q => ∃ (a : Addr) (xs : List V) (k : V → List Int), vs = [V.ref a] ∧ SqL K H a xs ∧ xs ≠ [] ∧ (∀ x ∈ xs, ∃ t, x = V.ref t ∧ SqT K H t ((k x).map V.int)) ∧
  ∀ m, m ∈ xs → (∀ y ∈ xs, leT (k m) (k y) = true) → Q m H
theorem argBest_min {f : Nat → List Int} : ∀ n, argBest (fun i j => ltT (f i) (f j)) n ≤ n ∧ ∀ j, j ≤ n → leT (f (argBest (fun i j => ltT (f i) (f j)) n)) (f j) = true
  | 0 => ⟨Nat.le_refl _, fun j hj => by rw [Nat.le_zero.mp hj]; exact leT_refl _⟩
  | n + 1 => by
    obtain ⟨i1, i2⟩ := argBest_min (f := f) n
    unfold argBest
    by_cases h : ltT (f (n + 1)) (f (argBest (fun i j => ltT (f i) (f j)) n)) = true
    · rw [if_pos h]
      refine ⟨Nat.le_refl _, fun j hj => ?_⟩
      by_cases e : j = n + 1
      · rw [e]; exact leT_refl _
      · exact leT_trans (ltT_leT h) (i2 j (by omega))
    · rw [if_neg h]
      refine ⟨Nat.le_succ_of_le i1, fun j hj => ?_⟩
      by_cases e : j = n + 1
      · rw [e]; exact leT_of_not (Bool.eq_false_iff.mpr h)
      · exact i2 j (by omega)
theorem cr_minM {X : Cx} (hc : X.calm = true) (hu : X.A.units + 64 < cLine) : CallR X (.builtin "min") (rMinM X.K) := fun pins s σ H vs us Q I rs h => by
  obtain ⟨a, xs, k, rfl, hs, hne, hx, q⟩ := h
  obtain ⟨its, rv, pl, sz⟩ := I.list hs
  obtain ⟨u, eu, ru⟩ := vals1 rs
  subst eu
  cases ru
  obtain ⟨e1, e2⟩ := refs_back rv fun x m => let ⟨t, e, _⟩ := hx x m; ⟨t, e⟩
  have tu : ∀ u ∈ its, TuAt s.heap u (k (backV u)) := fun u m => by
    obtain ⟨t, rfl⟩ := e2 u m
    have hm : V.ref t ∈ xs := by rw [e1]; exact List.mem_map_of_mem m
    obtain ⟨t2, et, ht⟩ := hx _ hm
    cases et
    obtain ⟨vs2, r2, p2, _⟩ := I.tuple ht
    exact ⟨t, vs2, rfl, p2, Vals.ints r2⟩
  have hl : its.length = xs.length := rv.length.symm
  have hpos : 0 < its.toArray.size := by
    rw [List.size_toArray, hl]
    exact List.length_pos_iff.mpr hne
  have cmp : PySem.CmpIn X.prog X.w X.A.in1 .Lt s.heap (fun i v => its.toArray[i]? = some v) (fun i j => ltT (k (backV (its.getD i .none))) (k (backV (its.getD j .none)))) := fun i j vi vj s2 Q2 E2 keep hi hj hq => by
    have gi : its[i]? = some vi := by simpa using hi
    have gj : its[j]? = some vj := by simpa using hj
    obtain ⟨b1, w1, x1, p1, i1⟩ := (tu vi (List.mem_of_getElem? gi)).keeps fun b o g _ => keep b o g
    obtain ⟨b2, w2, x2, p2, i2⟩ := (tu vj (List.mem_of_getElem? gj)).keeps fun b o g _ => keep b o g
    have q1 : its.getD i Value.none = vi := by rw [List.getD_eq_getElem?_getD, gi]; rfl
    have q2 : its.getD j Value.none = vj := by rw [List.getD_eq_getElem?_getD, gj]; rfl
    simp only [q1, q2] at hq
    generalize k (backV vi) = ns at *
    generalize k (backV vj) = ms at *
    subst x1 x2
    have hu2 : X.A.in1.units < cLine := by show X.A.units + 1 < _; omega
    exact HT.lt_tupInts p1 p2 i1 i2 hu2 hq
  have hsz : its.toArray.size = its.length := List.size_toArray
  apply PySem.call_min_walkH
  apply PySem.W.iter_listW (A := X.A.in1) (I.ok.hd hc) pl.isList
  intro s2 e W st hfp hw hk
  refine ⟨_, _, _, _, _, _, _, s.heap, _, rfl, W, st, hfp, hpos, hw, hk, cmp, fun v s3 hP mv => ?_⟩
  obtain ⟨hp3, tk, rfl, hk3⟩ := PySem.W.moved_old e rfl mv
  have gv : its[argBest (fun i j => ltT (k (backV (its.getD i .none))) (k (backV (its.getD j .none)))) (its.toArray.size - 1)]? = some v := by simpa using hP
  obtain ⟨m1, m2⟩ := argBest_min (f := fun i => k (backV (its.getD i .none))) (its.toArray.size - 1)
  have hmem := List.mem_of_getElem? gv
  obtain ⟨t, rfl⟩ := e2 v hmem
  refine ⟨.ref t, H, I.kept hk3, rfl, q _ (by rw [e1]; exact List.mem_map_of_mem hmem) fun y hy => ?_⟩
  rw [e1] at hy
  obtain ⟨u, hu3, rfl⟩ := List.mem_map.mp hy
  obtain ⟨j, hj, ej⟩ := List.getElem_of_mem hu3
  have := m2 j (by omega)
  have q1 : its.getD j Value.none = u := by rw [List.getD_eq_getElem?_getD, List.getElem?_eq_getElem hj, ej]; rfl
  have q2 : its.getD (argBest (fun i j => ltT (k (backV (its.getD i .none))) (k (backV (its.getD j .none)))) (its.toArray.size - 1)) Value.none = Value.ref t := by rw [List.getD_eq_getElem?_getD, gv]; rfl
  simp only [q1, q2] at this
  exact this
end Dn

/-! Dn32: sorted, min, remove of tuples of ints, as equations. -/
namespace Dn
open PySem PySem.Spec PyProof.Rows L2
section
variable {K : PySem.W.Frag} {S : Hp} {ad : Ad}
open Classical in
/-- the ints of a tuple that is there -/
noncomputable def kI (S : Hp) (v : V) : List Int := if h : ∃ (ns : List Int) (t : Addr), v = .ref t ∧ S t = some (.tup (ns.map V.int)) then h.choose else []
theorem int_inj : ∀ {ns ms : List Int}, ns.map V.int = ms.map V.int → ns = ms
  | [], [], _ => rfl
  | [], _ :: _, h => by cases h
  | _ :: _, [], h => by cases h
  | n :: ns, m :: ms, h => by
    rw [List.map_cons, List.map_cons, List.cons.injEq] at h
    rw [V.int.inj h.1, int_inj h.2]
theorem kI_eq {t : Addr} {ns : List Int} (h : S t = some (.tup (ns.map V.int))) : kI S (.ref t) = ns := by
  have e : ∃ (ns : List Int) (t' : Addr), V.ref t = .ref t' ∧ S t' = some (.tup (ns.map V.int)) := ⟨ns, t, rfl, h⟩
  unfold kI
  rw [dif_pos e]
  obtain ⟨t2, e1, e2⟩ := e.choose_spec
  cases e1
  rw [h] at e2
  exact (int_inj (HO.tup.inj (Option.some.inj e2))).symm
@[simp] def tupsD : List D → Option (List (List Int))
  | [] => some []
  | .tup ds :: r => (intsD ds).bind fun ns => (tupsD r).map (ns :: ·)
  | _ => none
@[simp] theorem tupsD_map (nss : List (List Int)) : tupsD (mapD tuI nss) = some nss := by
  induction nss with
  | nil => rfl
  | cons n r ih => rw [mapD_cons]; simp [ih]
/-- it is a tuple of ints -/
def IsTu (S : Hp) (v : V) : Prop := ∃ t, v = .ref t ∧ S t = some (.tup ((kI S v).map V.int))
theorem tups_at : ∀ {ds : List D} {vs : List V} {nss : List (List Int)}, RpL K S ad vs ds → tupsD ds = some nss → vs.map (kI S) = nss ∧ ∀ v ∈ vs, IsTu S v
  | [], _, _, r, h => by cases r; cases h; exact ⟨rfl, fun v m => by cases m⟩
  | d :: ds, _, _, r, h => by
    cases r with
    | cons r1 r2 =>
      cases d <;> simp only [tupsD] at h <;> first | cases h | skip
      rename_i es
      cases q : intsD es with
      | none => rw [q] at h; cases h
      | some ns =>
        rw [q, Option.bind_some, Option.map_eq_some_iff] at h
        obtain ⟨zs, h1, rfl⟩ := h
        obtain ⟨i1, i2⟩ := tups_at r2 h1
        cases r1 with
        | tup hs hr =>
          rw [intsD_at hr q] at hs
          have e := kI_eq hs
          refine ⟨by rw [List.map_cons, e, i1], fun v m => ?_⟩
          rcases List.mem_cons.mp m with rfl | m
          · exact ⟨_, rfl, by rw [e]; exact hs⟩
          · exact i2 v m
theorem rpL_ints : ∀ ns : List Int, RpL K S ad (ns.map V.int) (mapD D.int ns)
  | [] => .nil
  | n :: ns => .cons (.int n) (rpL_ints ns)
theorem rp_tu {v : V} (h : IsTu S v) : Rp K S ad v (tuI (kI S v)) := by
  obtain ⟨t, e, hs⟩ := h
  have := Rp.tup (K := K) (ad := ad) hs (rpL_ints _)
  rw [← e] at this
  exact this
theorem rpL_tus : ∀ {vs : List V}, (∀ v ∈ vs, IsTu S v) → RpL K S ad vs (mapD tuI (vs.map (kI S)))
  | [], _ => .nil
  | v :: vs, h => .cons (rp_tu (h v List.mem_cons_self)) (rpL_tus fun u m => h u (List.mem_cons_of_mem _ m))
end
@[simp] def gSortM : List D → Mu → Res D := fun ds μ => match ds with
  | [d] => (match lsOf d μ with
    | some xs => (match tupsD xs with
      | some nss => if nss.all (fun ns => !decide (ns = [])) = true then .val (.lst (mapD tuI (sortT nss))) μ else .fail
      | none => .fail)
    | none => .fail)
  | _ => .fail
theorem cb_sortM {X : Cx} {W : WX} : CbO X W (.builtin "sorted") gSortM := ⟨_, cr_sortedM, ⟨fun {H0 S0 ad0 tmp ρ μ σ H Q xs ds} hl R k => by
  obtain ⟨S, ad, c, r⟩ := R.args hl
  unfold gSortM at k
  split at k
  · rename_i d
    obtain ⟨v, rfl, rv⟩ := rpL1 r
    split at k
    · rename_i es hs
      obtain ⟨a, vs, rfl, q, rr⟩ := lsOf_at c rv hs
      split at k
      · rename_i nss ht
        obtain ⟨t1, t2⟩ := tups_at rr ht
        split at k
        · rename_i hall
          refine ⟨a, vs, kI S, rfl, .of q, fun x m => ⟨fun z => ?_, ?_⟩, fun ys p pm up hp => ?_⟩
          · have hm : kI S x ∈ nss := by rw [← t1]; exact List.mem_map_of_mem m
            have := List.all_eq_true.mp hall _ hm
            rw [z] at this
            simp at this
          · obtain ⟨t, e, hs2⟩ := t2 x m
            exact ⟨t, e, .of (c.sh _ _ hs2)⟩
          · have hy : ∀ y ∈ ys, IsTu S y := fun y m => t2 y (pm.mem_iff.mp m)
            have e : ys.map (kI S) = sortT nss := by
              rw [← t1]
              exact sortT_uniq (pm.map (kI S)) (List.pairwise_map.mpr (up.imp fun h => leT_of_not h))
            rw [← e] at k
            exact k _ _ (newLst c (rpL_tus hy) hp)
        · exact k.elim
      · exact k.elim
    · exact k.elim
  · exact k.elim⟩⟩
@[simp] def gMinM : List D → Mu → Res D := fun ds μ => match ds with
  | [d] => (match lsOf d μ with
    | some xs => (match tupsD xs with
      | some nss => if nss = [] then .fail else .val (tuI (minT nss)) μ
      | none => .fail)
    | none => .fail)
  | _ => .fail
theorem cb_minM {X : Cx} {W : WX} (hc : X.calm = true) (hu : X.A.units + 64 < cLine) : CbO X W (.builtin "min") gMinM := ⟨_, cr_minM hc hu, ⟨fun {H0 S0 ad0 tmp ρ μ σ H Q xs ds} hl R k => by
  obtain ⟨S, ad, c, r⟩ := R.args hl
  unfold gMinM at k
  split at k
  · rename_i d
    obtain ⟨v, rfl, rv⟩ := rpL1 r
    split at k
    · rename_i es hs
      obtain ⟨a, vs, rfl, q, rr⟩ := lsOf_at c rv hs
      split at k
      · rename_i nss ht
        obtain ⟨t1, t2⟩ := tups_at rr ht
        split at k
        · exact k.elim
        · rename_i hne
          refine ⟨a, vs, kI S, rfl, .of q, fun z => hne (by rw [← t1, z]; rfl), fun x m => ?_, fun m hm hle => ?_⟩
          · obtain ⟨t, e, hs2⟩ := t2 x m
            exact ⟨t, e, .of (c.sh _ _ hs2)⟩
          · have e : kI S m = minT nss := by
              rw [← t1]
              refine minT_uniq (List.mem_map_of_mem hm) fun y hy => ?_
              obtain ⟨u, hu, rfl⟩ := List.mem_map.mp hy
              exact hle u hu
            rw [← e] at k
            exact k _ _ ⟨S, ad, c.push (rp_tu (t2 m hm))⟩
      · exact k.elim
    · exact k.elim
  · exact k.elim⟩⟩
/-! xs.remove(t) -/
theorem reads_ints {hp : Heap} : ∀ {us : List Value} {ns : List Int}, IntsAre us ns → ReadsAll hp us (ns.map PyData.int) []
  | _, _, .nil => .nil
  | _, _, .cons n t r => .cons (.int n t) (reads_ints r)
theorem reads_tu {hp : Heap} {v : Value} {ns : List Int} (h : TuAt hp v ns) : Reads hp v (.tuple (ns.map PyData.int)) [] := by
  obtain ⟨b, its, rfl, ⟨o, g, c, n, d⟩, i⟩ := h
  exact .tuple g c d (reads_ints i)
theorem reads_tus {hp : Heap} {k : Value → List Int} : ∀ {us : List Value}, (∀ u ∈ us, TuAt hp u (k u)) → ReadsAll hp us (us.map fun u => .tuple ((k u).map PyData.int)) []
  | [], _ => .nil
  | u :: us, h => .cons (reads_tu (h u List.mem_cons_self)) (reads_tus fun y m => h y (List.mem_cons_of_mem _ m))
theorem plain_ints (ns : List Int) : PyData.plainAll (ns.map PyData.int) = true := by
  induction ns with
  | nil => rfl
  | cons n r ih => simp [PyData.plainAll, PyData.plain, ih]
theorem plain_tus (nss : List (List Int)) : PyData.plainAll (nss.map fun ns => .tuple (ns.map PyData.int)) = true := by
  induction nss with
  | nil => rfl
  | cons n r ih => simp [PyData.plainAll, PyData.plain, ih, plain_ints]
theorem eqv_tus (ns ms : List Int) : PyData.eqv (.tuple (ns.map PyData.int)) (.tuple (ms.map PyData.int)) = decide (ns = ms) := eqv_ints ns ms
def rRemM (K : PySem.W.Frag) : V → List V → Hp → VK → Prop := fun x args H Q => ∃ (l : Addr) (xs : List V) (k : V → List Int) (y : V) (j : Nat), x = .ref l ∧ args = [y] ∧ H l = some (.lst xs) ∧ (∀ z ∈ xs, ∃ t, z = V.ref t ∧ SqT K H t ((k z).map V.int)) ∧ (∃ t, y = V.ref t ∧ SqT K H t ((k y).map V.int)) ∧
  xs.findIdx? (fun z => decide (k z = k y)) = some j ∧ Q .non (upd H l (.lst (xs.eraseIdx j)))
theorem depth_tu (ns : List Int) : (PyData.tuple (ns.map PyData.int)).depth ≤ 1 := by
  simp [PyData.depth, depth_ints]
theorem mt_removeM {X : Cx} (hu : X.A.units + 64 < cLine) : MtM X "list.remove" (rRemM X.K) := fun pins s σ H x args v us Q I rx rargs h => by
  obtain ⟨l, xs, k, y, j, rfl, rfl, hH, hx, hy, hj, q⟩ := h
  cases rx
  obtain ⟨u, rfl, ru⟩ := rargs.one
  obtain ⟨z, its, n, r, hl, g⟩ := I.lstM hH
  obtain ⟨e1, e2⟩ := refs_back r fun x m => let ⟨t, e, _⟩ := hx x m; ⟨t, e⟩
  have tu : ∀ u ∈ its, TuAt s.heap u (k (backV u)) := fun u m => by
    obtain ⟨t, rfl⟩ := e2 u m
    have hm : V.ref t ∈ xs := by rw [e1]; exact List.mem_map_of_mem m
    obtain ⟨t2, et, ht⟩ := hx _ hm
    cases et
    obtain ⟨vs2, r2, p2, _⟩ := I.tuple ht
    exact ⟨t, vs2, rfl, p2, Vals.ints r2⟩
  obtain ⟨ty, rfl, hty⟩ := hy
  obtain rfl : u = Value.ref ty := ru
  obtain ⟨vs3, r3, p3, _⟩ := I.tuple hty
  have ty1 : TuAt s.heap (.ref ty) (k (V.ref ty)) := ⟨ty, vs3, rfl, p3, Vals.ints r3⟩
  have hz : its.toArray.size ≤ sizeLine := by rw [List.size_toArray, ← r.length]; exact z
  have pl : SeqAt.dataPlace (its.map fun u => PyData.tuple ((k (backV u)).map PyData.int)) (.tuple ((k (V.ref ty)).map PyData.int)) = some j := by
    unfold SeqAt.dataPlace
    rw [← hj, e1, List.findIdx?_map, List.findIdx?_map]
    congr 1
    funext u
    exact eqv_tus _ _
  have hd := depth_tu (k (V.ref ty))
  apply SeqAt.remove_list_data (j := j) (s := s) (l := l) (vs := its.toArray) (xs := its.map fun u => PyData.tuple ((k (backV u)).map PyData.int)) (d := .tuple ((k (V.ref ty)).map PyData.int)) ⟨_, g, rfl, n, rfl⟩ (by simpa using reads_tus tu) (reads_tu ty1) _ (by simp [PyData.plain, plain_ints]) (by omega) pl hz
  · have rr := r.eraseIdx j
    refine ⟨.non, _, I.lset (its' := its.eraseIdx j) (t' := s.toks) hH g ?_ rr ?_, rfl, q⟩
    · show its.toArray.eraseIdxIfInBounds j = (its.eraseIdx j).toArray
      rw [List.eraseIdxIfInBounds_toArray]
    · have := List.length_eraseIdx_le xs j
      omega
  · have := plain_tus (its.map fun u => k (backV u))
    rw [List.map_map] at this
    exact this
@[simp] def gRemM : MF := fun d ds μ => match d, ds with
  | .ref n, [.tup ys] => (match μ[n]? with
    | some (.lst xs) => (match tupsD xs, intsD ys with
      | some nss, some ns => (match nss.findIdx? (fun m => decide (m = ns)) with
        | some j => .val .non (μ.set n (.lst (xs.eraseIdx j)))
        | none => .fail)
      | _, _ => .fail)
    | _ => .fail)
  | _, _ => .fail
theorem mo_removeM {X : Cx} {W : WX} (hu : X.A.units + 64 < cLine) : MtO X W "list.remove" gRemM := ⟨_, mt_removeM hu, ⟨fun {H0 S0 ad0 tmp ρ μ σ H Q x d xs ds} hl R k => by
  obtain ⟨S, ad, c, rx, ra⟩ := R.margs hl
  unfold gRemM at k
  split at k
  · rename_i n ys
    obtain ⟨w, rfl, ry⟩ := rpL1 ra
    split at k
    · rename_i zs hm
      split at k
      · rename_i nss ns h1 h2
        split at k
        · rename_i j hj
          cases rx with
          | ref ha =>
            rename_i a
            obtain ⟨vs, g1, g2⟩ := c.at_ n a _ ha hm
            obtain ⟨t1, t2⟩ := tups_at g2 h1
            cases ry with
            | tup hs hr =>
              rename_i b us
              rw [intsD_at hr h2] at hs
              have e := kI_eq hs
              refine ⟨a, vs, kI S, .ref b, j, rfl, rfl, g1, fun z m => ?_, ⟨b, rfl, ?_⟩, ?_, k _ _ ((wrLst (xs := zs) c ha (g2.erase j)).flat flat_non)⟩
              · obtain ⟨t, e3, hs2⟩ := t2 z m
                exact ⟨t, e3, .of (c.sh _ _ hs2)⟩
              · rw [e]
                exact .of (c.sh _ _ hs)
              · rw [e, ← hj, ← t1, List.findIdx?_map]
                rfl
        · exact k.elim
      · exact k.elim
    · exact k.elim
  · exact k.elim⟩⟩
end Dn

/-! Dn33: try .. except C without a name (context None); methods called in its suite. -/
namespace Dn
open PySem PySem.Spec PyProof.Rows L2 HotX
open L2H (HotC Hot1 RoomH PinOk cxH inv_startH)
@[simp] def noExc : Out → Out
  | .exc _ _ _ => .fail
  | o => o
noncomputable def sTryN (ca : Nat → Addr) (tbl : Nat → Option Bool) (b : SF) (s : Addr → XI → SF) : SF := fun ρ μ => match b ρ μ with
  | .exc x ρ1 μ1 => if x.cls = .ref (ca x.ix) then (match tbl x.ix with
    | some true => pickO fun p : Addr × Addr => noExc (s p.1 (xiD x.ix x.fs p.2) ρ1 μ1)
    | some false => .exc x ρ1 μ1
    | none => .fail) else .fail
  | o => o
section
variable {X : Cx} {W : WX} {ca : Nat → Addr} {x : Str} {c : Nat} {body suite : List Stmt} {b₀ : Stmt} {np pos pos' : Pos} {fb : SF} {fs : Addr → XI → SF} {tbl : Nat → Option Bool}
theorem ds_tryN (hs : X.stack = X.env :: X.outer) (hf : X.env.frame = some X.env.locals) (hc : Names X x (.ref (ca c))) (tk : L2N.Takes X W) (ht : ∀ j b, tbl j = some b → PySem.W.exmOne X.K (.ref (ca j)) (.ref (ca c)) = some b)
    (hb : ∀ (W' : WX) (pn : List (Addr × Obj)) (xe : Value → Shared → Prop), L2N.Takes (X.tr pn xe) W' → PassesOwn (model X.prog X.w) X.A X.env xe → DSs (X.tr pn xe) W' body fb)
    (hsu : ∀ (a : Addr) (oe : Obj) (j : XI) (pn : List (Addr × Obj)), tbl j.ix = some true → L2N.Zn (.ref (ca j.ix)) j.dd oe → (∃ vs, oe.data = .fields vs) → DSs (X.suite a ((a, oe) :: pn)) W0 (b₀ :: suite) (fs a j)) :
    DS X W (.Try body [.ExceptHandler (some (.Name x np)) none (b₀ :: suite) pos'] [] [] pos) (sTryN ca tbl fb fs) := by
  refine ⟨_, L2N.ps_try_many (l := [(.ref (ca c), fun a cls d => fun E σ H => ∃ j : XI, tbl j.ix = some true ∧ cls = .ref (ca j.ix) ∧ d = j.dd ∧ canS X.K W0 (fs a j) E σ H)]) (tb := fun W' => canS X.K W' fb) (Wout := W) hs hf tk (fun W' pn xe tk' hp => (hb W' pn xe tk' hp).can)
    (.cons hc (fun a oe cls d pn hz hv => ⟨fun pins s σ H E I ⟨j, hj, e1, e2, h⟩ => by
      subst e1 e2
      exact (hsu a oe j pn hj hz hv).can.run pins s σ H E I h⟩) .nil), ⟨fun {H0 S0 ad0 tmp ρ μ σ H E} R k => ?_⟩⟩
  refine ⟨H0, S0, ad0, tmp, ρ, μ, R, ?_⟩
  unfold sTryN at k
  cases e1 : fb ρ μ with
  | nx ρ1 μ1 => rw [e1] at k; exact k
  | ret d μ1 => rw [e1] at k; exact k
  | bk ρ1 μ1 => rw [e1] at k; exact k
  | ct ρ1 μ1 => rw [e1] at k; exact k
  | fail => rw [e1] at k; exact k
  | exc z ρ1 μ1 =>
    rw [e1] at k
    simp only at k
    intro cls dd σ1 H1 RX
    split at k
    · rename_i hcl
      split at k
      · rename_i hb1
        refine ⟨true, by rw [RX.1, hcl]; exact ht _ _ hb1, fun _ a na => ?_, fun z => Bool.noConfusion z⟩
        obtain ⟨ec, S, ad, cc, qd⟩ := RX
        obtain ⟨d0, ed, rp⟩ := slotD_at (i := z.ix) a qd
        have hnf : (pickO fun p : Addr × Addr => noExc (fs p.1 (xiD z.ix z.fs p.2) ρ1 μ1)) ≠ .fail := fun e => by rw [e] at k; exact k.elim
        have he := pickO_at hnf (a, d0)
        rw [← he] at k
        refine ⟨xiD z.ix z.fs d0, by rw [xiD_ix]; exact hb1, by rw [xiD_ix]; exact ec.trans hcl, ed, H0, S0, ad0, tmp, ρ1, μ1, ⟨S, ad, cc⟩, ?_⟩
        dsimp only at k
        cases e2 : fs a (xiD z.ix z.fs d0) ρ1 μ1 with
        | exc _ _ _ => rw [e2] at k; exact k.elim
        | fail => rw [e2] at k; exact k.elim
        | ret d μ2 => rw [e2] at k; exact k
        | nx ρ2 μ2 => rw [e2] at k; exact k
        | bk ρ2 μ2 => rw [e2] at k; exact k
        | ct ρ2 μ2 => rw [e2] at k; exact k
      · rename_i hb1
        exact ⟨false, by rw [RX.1, hcl]; exact ht _ _ hb1, fun z => Bool.noConfusion z, fun _ => k _ _ _ _ RX⟩
      · exact k.elim
    · exact k.elim
end
/-! methods called there -/
section
variable {X : Cx} {ca : Nat → Addr} {k : Nat} {f C : Addr} {fd : FuncData} {ps : List Str} {sp : Addr → XI → Sp} {m : Str} {pos apos : Pos} {o : Expr} {ta : TE} {a : Addr} {i : XI}
theorem pe_methHot0 {pl : Sem Bool} (po : PE X o ta) (cl : Cls X.K C) (hm : Meth X.K C m f) (F : FnE X.prog X.w X.K X.mg X.base ca k f fd ps sp) (hr : RoomH k X.A) (hc : HotE ca X a i) (hb : Binds X.K fd ps [])
    (ht : eval (.Call (.Attribute o m apos) [] [] pos) X.env = (do
      let ov ← eval o X.env
      standAt apos.atName
      let (f, first) ← holding [ov] (getMethod ov m pl)
      callWith pos f first (backTo pos (starEach [] X.env)) (backToKw pos (keywordEach [] X.env))) := by rfl) : PE X (.Call (.Attribute o m apos) [] [] pos) (tMeth C m (sp a i) [] E0 ta tNil) := ⟨fun pins s σ H Q I h => by
  apply PySem.W.methodCall_KW (pl := pl) _ ht
  apply thn (po.run pins s σ H _ I h)
  rintro v s2 ⟨y, H2, I2, ry, b, db, fl, ey, eb, nl, q⟩
  subst ey
  cases ry
  apply getmeth_ok I2 eb cl hm nl
  have q2 : sp a i [V.ref b] H2 Q E0 := q
  exact PySem.W.callWith_K0 (first := [.ref b]) I2.kIn hm.kp (run_fnE (us := [.ref b]) (vs := [.ref b]) F hr hc hb I2 (.cons rfl .nil) q2)⟩
end
theorem de_methHot0 {X : Cx} {W : WX} {ca : Nat → Addr} {o : Expr} {m : Str} {fo : EF} {pos apos : Pos} {n k : Nat} {F : Addr → XI → List D → Mu → Res D} {g : Addr} {fd : FuncData} {ps : List Str} {pl : Sem Bool} {a : Addr} {i : XI} (ic : Nat) (c : Cls X.K (ca ic)) (hm : Meth X.K (ca ic) m g)
    (G : FnE X.prog X.w X.K X.mg X.base ca k g fd ps (fun a i => spN X.K n (F a i))) (hr : RoomH k X.A) (hc : HotE ca X a i) (hb : Binds X.K fd ps []) (ho : DE X W o fo)
    (ht : eval (.Call (.Attribute o m apos) [] [] pos) X.env = (do
      let ov ← eval o X.env
      standAt apos.atName
      let (f, first) ← holding [ov] (getMethod ov m pl)
      callWith pos f first (backTo pos (starEach [] X.env)) (backToKw pos (keywordEach [] X.env))) := by rfl) : DE X W (.Call (.Attribute o m apos) [] [] pos) (eMeth ca ic n m (F a i) fo aNil) :=
  let ⟨_, p1, q1⟩ := ho; ⟨_, pe_methHot0 p1 c hm G hr hc hb ht, simE_meth q1 simA_nil⟩
/-! xs[::-1] of a list -/
@[simp] def gRevL : D → Mu → Res D := fun d μ => match lsOf d μ with
  | some xs => .val (.lst xs.reverse) μ
  | none => .fail
theorem de_revL {X : Cx} {W : WX} {e : Expr} {fe : EF} {pos p1 p2 p3 : Pos} {k : Nat} (he : DE X W e fe) : DE X W (.Subscript e (.Slice none none (some (.UnaryOp .USub (.Constant (.int 1) k p1) p2)) p3) pos) (eUn gRevL fe) := by
  obtain ⟨te, h1, h2⟩ := he
  refine ⟨_, pe_revL h1, ⟨fun {H0 S0 ad0 tmp ρ μ σ H Q} R kk => ?_⟩⟩
  refine h2.run R ?_
  unfold eUn at kk
  cases e1 : fe ρ μ with
  | fail => rw [e1] at kk; exact kk.elim
  | exc x μ1 => rw [e1] at kk; exact kk
  | val d μ1 =>
    rw [e1] at kk
    simp only [bind_val] at kk
    intro v H1 R1
    unfold gRevL at kk
    split at kk
    · rename_i xs hx
      obtain ⟨S, ad, c, r⟩ := R1.one
      obtain ⟨a, vs, rfl, q, rr⟩ := lsOf_at c r hx
      exact ⟨a, vs, rfl, .of q, fun p hp => kk _ _ ⟨_, ad, (c.stab hp _).push (.lst upd_same (rr.reverse.mono (same_new (c.fresh hp).1) adp_refl))⟩⟩
    · exact kk.elim
theorem hu0 {n : Nat} (h : n + 64 < cLine) : n < cLine := by omega
end Dn

/-! Dn34: heaps in plain Lean: rows of tuples of ints in which none is less than the one at half of its place. -/
namespace Dn
open PySem PySem.Spec PyProof.Rows L2
abbrev Tu : Type := List Int
def gt0 (zs : List Tu) (i : Nat) : Tu := zs.getD i []
def HeapOk (zs : List Tu) : Prop := ∀ i, 0 < i → i < zs.length → leT (gt0 zs ((i - 1) / 2)) (gt0 zs i) = true
def swp (zs : List Tu) (a b : Nat) : List Tu := (zs.set a (gt0 zs b)).set b (gt0 zs a)
theorem gt0_get {zs : List Tu} {i : Nat} (h : i < zs.length) : gt0 zs i = zs[i] := by
  unfold gt0
  rw [List.getD_eq_getElem?_getD, List.getElem?_eq_getElem h]
  rfl
theorem gt0_mem {zs : List Tu} {i : Nat} (h : i < zs.length) : gt0 zs i ∈ zs := by rw [gt0_get h]; exact List.getElem_mem h
theorem gt0_set {zs : List Tu} {a i : Nat} {t : Tu} (ha : a < zs.length) : gt0 (zs.set a t) i = if i = a then t else gt0 zs i := by
  unfold gt0
  rw [List.getD_eq_getElem?_getD, List.getD_eq_getElem?_getD, List.getElem?_set]
  by_cases e : a = i
  · subst e; simp [ha]
  · rw [if_neg e, if_neg fun z => e z.symm]
theorem swp_len (zs : List Tu) (a b : Nat) : (swp zs a b).length = zs.length := by unfold swp; simp
theorem swp_get {zs : List Tu} {a b i : Nat} (ha : a < zs.length) (hb : b < zs.length) : gt0 (swp zs a b) i = if i = b then gt0 zs a else if i = a then gt0 zs b else gt0 zs i := by
  unfold swp
  rw [gt0_set (by simpa using hb), gt0_set ha]
theorem swp_perm : ∀ {zs : List Tu} {a b : Nat}, a < zs.length → b < zs.length → (swp zs a b).Perm zs := fun {zs a b} ha hb => by
  by_cases e : a = b
  · subst e
    have : swp zs a a = zs := by
      unfold swp
      rw [List.set_set, gt0_get ha, List.set_getElem_self]
    rw [this]
  · refine List.perm_iff_count.mpr fun t => ?_
    unfold swp
    have h1 : (zs.set a (gt0 zs b))[b]'(by simpa using hb) = gt0 zs b := by
      rw [List.getElem_set_ne e, gt0_get hb]
    rw [List.count_set (by simpa using hb), h1, List.count_set ha, gt0_get ha, gt0_get hb]
    have ca : zs[a] = t → 0 < zs.count t := fun z => List.count_pos_iff.mpr (by rw [← z]; exact List.getElem_mem ha)
    have cb : zs[b] = t → 0 < zs.count t := fun z => List.count_pos_iff.mpr (by rw [← z]; exact List.getElem_mem hb)
    by_cases q1 : zs[a] = t <;> by_cases q2 : zs[b] = t <;> simp [q1, q2]
    · have := ca q1; omega
    · have := ca q1; omega
theorem heap_root {zs : List Tu} (h : HeapOk zs) : ∀ i, i < zs.length → leT (gt0 zs 0) (gt0 zs i) = true := fun i => by
  induction i using Nat.strongRecOn with
  | _ i ih =>
    intro hi
    by_cases e : i = 0
    · rw [e]; exact leT_refl _
    · exact leT_trans (ih ((i - 1) / 2) (by omega) (by omega)) (h i (by omega) hi)
theorem heap_min {zs : List Tu} (h : HeapOk zs) (hne : 0 < zs.length) {as : List Tu} (hp : zs.Perm as) : gt0 zs 0 = minT as := by
  refine minT_uniq (hp.mem_iff.mp (gt0_mem hne)) fun y hy => ?_
  obtain ⟨i, hi, e⟩ := List.getElem_of_mem (hp.mem_iff.mpr hy)
  rw [← e, ← gt0_get hi]
  exact heap_root h i hi
/-! one more: the hole goes up -/
structure UpOk (zs : List Tu) (a : Nat) : Prop where
  lt : a < zs.length
  but : ∀ i, 0 < i → i < zs.length → i ≠ a → leT (gt0 zs ((i - 1) / 2)) (gt0 zs i) = true
  grand : ∀ i, 0 < i → i < zs.length → (i - 1) / 2 = a → 0 < a → leT (gt0 zs ((a - 1) / 2)) (gt0 zs i) = true
theorem UpOk.fin0 {zs : List Tu} (u : UpOk zs 0) : HeapOk zs := fun i h0 hi => u.but i h0 hi (by omega)
theorem UpOk.fin {zs : List Tu} {a : Nat} (u : UpOk zs a) (h : leT (gt0 zs ((a - 1) / 2)) (gt0 zs a) = true) : HeapOk zs := fun i h0 hi => by
  by_cases e : i = a
  · rw [e]; exact h
  · exact u.but i h0 hi e
theorem UpOk.step {zs : List Tu} {a : Nat} (u : UpOk zs a) (h0 : 0 < a) (h : leT (gt0 zs a) (gt0 zs ((a - 1) / 2)) = true) : UpOk (swp zs a ((a - 1) / 2)) ((a - 1) / 2) := by
  have ha := u.lt
  have hb : (a - 1) / 2 < zs.length := by omega
  refine ⟨by rw [swp_len]; exact hb, fun i hi hl hne => ?_, fun i hi hl hp hb0 => ?_⟩
  · rw [swp_len] at hl
    rw [swp_get ha hb, swp_get ha hb, if_neg hne]
    by_cases e1 : i = a
    · subst e1
      rw [if_pos rfl, if_pos rfl]
      exact h
    · rw [if_neg e1]
      by_cases e2 : (i - 1) / 2 = (a - 1) / 2
      · rw [if_pos e2]
        have := u.but i hi hl e1
        rw [e2] at this
        exact leT_trans h this
      · rw [if_neg e2]
        by_cases e3 : (i - 1) / 2 = a
        · rw [if_pos e3]
          exact u.grand i hi hl e3 h0
        · rw [if_neg e3]
          exact u.but i hi hl e1
  · rw [swp_len] at hl
    have g1 : ((a - 1) / 2 - 1) / 2 ≠ (a - 1) / 2 := by omega
    have g2 : ((a - 1) / 2 - 1) / 2 ≠ a := by omega
    have g3 : i ≠ (a - 1) / 2 := by omega
    rw [swp_get ha hb, swp_get ha hb, if_neg g1, if_neg g2, if_neg g3]
    have k1 := u.but ((a - 1) / 2) hb0 hb (by omega)
    by_cases e1 : i = a
    · rw [if_pos e1]; exact k1
    · rw [if_neg e1]
      have k2 := u.but i hi hl e1
      rw [hp] at k2
      exact leT_trans k1 k2
theorem up_start {zs : List Tu} (h : HeapOk zs) (t : Tu) : UpOk (zs ++ [t]) zs.length := by
  have g : ∀ i, i < zs.length → gt0 (zs ++ [t]) i = gt0 zs i := fun i hi => by
    unfold gt0
    rw [List.getD_eq_getElem?_getD, List.getD_eq_getElem?_getD, List.getElem?_append_left hi]
  refine ⟨by simp, fun i h0 hi hne => ?_, fun i h0 hi hp _ => ?_⟩
  · have hi : i < zs.length := by simp at hi; omega
    rw [g _ hi, g _ (by omega)]
    exact h i h0 hi
  · simp at hi; omega
/-! the first one goes: the hole goes down -/
structure DnOk (zs : List Tu) (a : Nat) : Prop where
  lt : a < zs.length
  but : ∀ i, 0 < i → i < zs.length → (i - 1) / 2 ≠ a → leT (gt0 zs ((i - 1) / 2)) (gt0 zs i) = true
  grand : ∀ i, 0 < i → i < zs.length → (i - 1) / 2 = a → 0 < a → leT (gt0 zs ((a - 1) / 2)) (gt0 zs i) = true
theorem DnOk.fin {zs : List Tu} {a : Nat} (u : DnOk zs a) (h : ∀ i, 0 < i → i < zs.length → (i - 1) / 2 = a → leT (gt0 zs a) (gt0 zs i) = true) : HeapOk zs := fun i h0 hi => by
  by_cases e : (i - 1) / 2 = a
  · rw [e]; exact h i h0 hi e
  · exact u.but i h0 hi e
theorem DnOk.step {zs : List Tu} {a b : Nat} (u : DnOk zs a) (hb0 : 0 < b) (hb : b < zs.length) (hp : (b - 1) / 2 = a) (hle : ∀ i, 0 < i → i < zs.length → (i - 1) / 2 = a → leT (gt0 zs b) (gt0 zs i) = true) (h : leT (gt0 zs b) (gt0 zs a) = true) : DnOk (swp zs a b) b := by
  have ha := u.lt
  have hab : a ≠ b := by omega
  refine ⟨by rw [swp_len]; exact hb, fun i hi hl hne => ?_, fun i hi hl hpi _ => ?_⟩
  · rw [swp_len] at hl
    rw [swp_get ha hb, swp_get ha hb, if_neg hne]
    by_cases e1 : (i - 1) / 2 = a
    · rw [if_pos e1]
      by_cases e2 : i = b
      · rw [if_pos e2]; exact h
      · rw [if_neg e2, if_neg (by omega)]
        exact hle i hi hl e1
    · rw [if_neg e1]
      have e3 : i ≠ b := fun z => e1 (by rw [z]; exact hp)
      rw [if_neg e3]
      by_cases e2 : i = a
      · subst e2
        rw [if_pos rfl]
        exact u.grand b hb0 hb hp hi
      · rw [if_neg e2]
        exact u.but i hi hl e1
  · rw [swp_len] at hl
    rw [swp_get ha hb, swp_get ha hb, hp, if_neg hab, if_pos rfl, if_neg (by omega), if_neg (by omega)]
    have := u.but i hi hl (by omega)
    rw [hpi] at this
    exact this
theorem dn_start {x : Tu} {zs : List Tu} (h : HeapOk (x :: zs)) (t : Tu) {ws : List Tu} (hw : ws.length ≤ zs.length) (hg : ∀ i, i < ws.length → gt0 ws i = gt0 zs i) : DnOk (t :: ws) 0 := by
  have g : ∀ i, 0 < i → i < (t :: ws).length → gt0 (t :: ws) i = gt0 (x :: zs) i := fun i h0 hi => by
    obtain ⟨j, rfl⟩ : ∃ j, i = j + 1 := ⟨i - 1, by omega⟩
    have : gt0 ws j = gt0 zs j := hg j (by simpa using hi)
    unfold gt0 at this ⊢
    simpa using this
  refine ⟨by simp, fun i h0 hi hne => ?_, fun i h0 hi hp hz => absurd hz (by omega)⟩
  rw [g i h0 hi, g _ (by omega) (by omega)]
  refine h i h0 ?_
  simp only [List.length_cons] at hi ⊢
  omega
end Dn

/-! Dn35: what was told and kept, where cells below it change; tuples of whole numbers, compared. -/
namespace Dn
open PySem PySem.Spec PyProof.Rows L2
theorem toPy_tu (t : Tu) : toPy (tuI t) = some (.tuple (t.map PyData.int)) := by simp [tuI, toPy]
theorem toPyL_tus (xs : List Tu) : toPyL (mapD tuI xs) = some (xs.map fun t => PyData.tuple (t.map PyData.int)) := toPyL_map toPy_tu xs
theorem shaped_tuL (xs : List Tu) : SeqAt.shaped (.list (xs.map fun t => PyData.tuple (t.map PyData.int))) = true := by
  have h1 : PyData.canLayAll0 (xs.map fun t => PyData.tuple (t.map PyData.int)) = true := lay_map fun l m => by simp
  have h2 : PyData.depthAll (xs.map fun t => PyData.tuple (t.map PyData.int)) ≤ 1 := dep_map fun x _ => by simp
  simp [h1]
  omega
theorem sortT_same {xs ts : List Tu} (pm : xs.Perm ts) : sortT xs = sortT ts := sortT_uniq ((sortT_perm xs).trans pm) (sortT_up xs)
section
variable {α : Type} {f : α → D} {μ : Mu}
/-- cells from k on stay; cells below k stay -/
def Up (k : Nat) (μ μ' : Mu) : Prop := ∀ (i : Nat) (x : Nd), k ≤ i → μ[i]? = some x → μ'[i]? = some x
def Below (k : Nat) (μ μ' : Mu) : Prop := ∀ (i : Nat) (x : Nd), i < k → μ[i]? = some x → μ'[i]? = some x
theorem Up.refl {k : Nat} : Up k μ μ := fun _ _ _ h => h
theorem Up.trans {k : Nat} {a b c : Mu} (h : Up k a b) (g : Up k b c) : Up k a c := fun i x l e => g i x l (h i x l e)
theorem Up.app {k : Nat} (ν : Mu) : Up k μ (μ ++ ν) := fun i x _ e => get_old e
theorem Up.set {k p : Nat} {x : Nd} (hp : p < k) : Up k μ (μ.set p x) := fun i y h e => get_set e (by omega)
theorem Below.refl {k : Nat} : Below k μ μ := fun _ _ _ h => h
theorem Below.trans {k : Nat} {a b c : Mu} (h : Below k a b) (g : Below k b c) : Below k a c := fun i x l e => g i x l (h i x l e)
theorem Below.app {k : Nat} (ν : Mu) : Below k μ (μ ++ ν) := fun i x _ e => get_old e
theorem Below.set {k p : Nat} {x : Nd} (hp : k ≤ p) : Below k μ (μ.set p x) := fun i y h e => get_set e (by omega)
def KB (f : α → D) (kp m : Nat) (μ : Mu) : Prop := ∃ ps : List (Nat × List α), μ[kp]? = some (.lst (mapD (prF f) ps)) ∧ ps.length ≤ m ∧ ∀ p ∈ ps, kp < p.1 ∧ μ[p.1]? = some (.lst (mapD f p.2))
theorem KB.keep {kp m : Nat} {μ' : Mu} (k : KB f kp m μ) (u : Up kp μ μ') : KB f kp m μ' := by
  obtain ⟨ps, e1, e2, e3⟩ := k
  exact ⟨ps, u _ _ (Nat.le_refl _) e1, e2, fun p hp => ⟨(e3 p hp).1, u _ _ (Nat.le_of_lt (e3 p hp).1) (e3 p hp).2⟩⟩
theorem KB.more {kp m m' : Nat} (k : KB f kp m μ) (h : m ≤ m') : KB f kp m' μ := by
  obtain ⟨ps, e1, e2, e3⟩ := k
  exact ⟨ps, e1, Nat.le_trans e2 h, e3⟩
theorem KB.lt {kp m : Nat} (k : KB f kp m μ) : kp < μ.length := by
  obtain ⟨ps, e, _⟩ := k
  exact get_lt e
theorem KB.isL {kp m : Nat} (k : KB f kp m μ) : tyMt "list" (.ref kp) μ = true := by
  obtain ⟨ps, e, _⟩ := k
  exact isL_ref e
theorem KB.len {kp m : Nat} (k : KB f kp m μ) : ∃ t : Nat, t ≤ m ∧ gLen [.ref kp] μ = .val (.int (t : Int)) μ := by
  obtain ⟨ps, e1, e2, e3⟩ := k
  refine ⟨ps.length, e2, ?_⟩
  simp [gLen, sqOf, lsOf, e1]
theorem KB.tell {kp m a : Nat} {μ0 : Mu} {xs : List α} (k : KB f kp m μ0) (u : Up kp μ0 μ) (h0 : μ0.length ≤ a) (ha : μ[a]? = some (.lst (mapD f xs))) (hx : xs.length < 100000) (hm : m < 50000) (v : α) :
    ∃ μ', KB f kp (m + 1) μ' ∧ Below kp μ μ' ∧ gAppend (.ref a) [f v] μ = .val .non (μ.set a (.lst (mapD f (xs ++ [v])))) ∧ tyMt "list" (.ref a) μ = true ∧
      gList [.ref a] (μ.set a (.lst (mapD f (xs ++ [v])))) = .val (.lst (mapD f (xs ++ [v]))) (μ.set a (.lst (mapD f (xs ++ [v])))) ∧ tyMt "list" (.ref kp) (μ.set a (.lst (mapD f (xs ++ [v])))) = true ∧
      gAppend (.ref kp) [.tup [.ref a, .lst (mapD f (xs ++ [v]))]] (μ.set a (.lst (mapD f (xs ++ [v])))) = .val .non μ' := by
  have hlt := k.lt
  obtain ⟨ps, e1, e2, e3⟩ := k
  have hs : mapD f (xs ++ [v]) = mapD f xs ++ [f v] := (mapD_snoc (f := f)).symm
  have hp : mapD (prF f) (ps ++ [(a, xs ++ [v])]) = mapD (prF f) ps ++ [.tup [.ref a, .lst (mapD f (xs ++ [v]))]] := (mapD_snoc (f := prF f)).symm
  have g1 : (μ.set a (.lst (mapD f (xs ++ [v]))))[kp]? = some (.lst (mapD (prF f) ps)) := get_set (u _ _ (Nat.le_refl _) e1) (by omega)
  have g2 : (μ.set a (.lst (mapD f (xs ++ [v]))))[a]? = some (.lst (mapD f (xs ++ [v]))) := get_at ha
  refine ⟨(μ.set a (.lst (mapD f (xs ++ [v])))).set kp (.lst (mapD (prF f) (ps ++ [(a, xs ++ [v])]))), ⟨ps ++ [(a, xs ++ [v])], get_at g1, by rw [List.length_append]; show ps.length + 1 ≤ m + 1; omega, fun p hp' => ?_⟩, (Below.set (by omega)).trans (Below.set (Nat.le_refl _)), ?_, isL_ref ha, gList_ref g2, isL_ref g1, ?_⟩
  · rcases List.mem_append.mp hp' with hp' | hp'
    · obtain ⟨q1, q2⟩ := e3 p hp'
      have := get_lt q2
      exact ⟨q1, get_set (get_set (u _ _ (Nat.le_of_lt q1) q2) (by omega)) (by omega)⟩
    · rw [List.mem_singleton.mp hp']
      exact ⟨by show kp < a; omega, get_set g2 (by omega)⟩
  · have hz : (mapD f xs).length < 100000 := by rw [mapD_length]; exact hx
    rw [hs]
    simp only [gAppend, ha, if_pos hz]
  · have hz : (mapD (prF f) ps).length < 100000 := by rw [mapD_length]; omega
    rw [hp]
    simp only [gAppend, g1, if_pos hz]
theorem KB.keepL {kp m : Nat} {μ' : Mu} (k : KB f kp m μ) (u : ∀ (i : Nat) (xs : List D), kp ≤ i → μ[i]? = some (.lst xs) → μ'[i]? = some (.lst xs)) : KB f kp m μ' := by
  obtain ⟨ps, e1, e2, e3⟩ := k
  exact ⟨ps, u _ _ (Nat.le_refl _) e1, e2, fun p hp => ⟨(e3 p hp).1, u _ _ (Nat.le_of_lt (e3 p hp).1) (e3 p hp).2⟩⟩
theorem compL_all {β : Type} {g : GT} {tt : TF} {te : EF} {ρ : Ro} {μ : Mu} {f h : β → D} : ∀ {xs : List β} {acc : List D}, (∀ x ∈ xs, ∃ ρ', g (f x) ρ μ = some (ρ', μ) ∧ tt ρ' μ = .val true μ ∧ te ρ' μ = .val (h x) μ) → compL g tt te ρ (mapD f xs) μ acc = .val (acc ++ mapD h xs) μ
  | [], acc, _ => by simp
  | x :: xs, acc, k => by
    obtain ⟨ρ', e1, e2, e3⟩ := k x List.mem_cons_self
    rw [mapD_cons, compL_cons, e1]
    simp only [e2, e3]
    rw [compL_all (fun y hy => k y (List.mem_cons_of_mem _ hy)), mapD_cons, List.append_assoc]
    rfl
theorem KB.tellX {kp m a : Nat} {μ0 : Mu} {xs : List α} (k : KB f kp m μ0) (u : Up kp μ0 μ) (h0 : μ0.length ≤ a) (ha : μ[a]? = some (.lst (mapD f xs))) (hx : xs.length < 100000) (hm : m < 50000) (v : α) :
    ∃ μ', KB f kp (m + 1) μ' ∧ (∀ (i : Nat) (x : Nd), i ≠ kp → i ≠ a → μ[i]? = some x → μ'[i]? = some x) ∧ gAppend (.ref a) [f v] μ = .val .non (μ.set a (.lst (mapD f (xs ++ [v])))) ∧ tyMt "list" (.ref a) μ = true ∧
      gList [.ref a] (μ.set a (.lst (mapD f (xs ++ [v])))) = .val (.lst (mapD f (xs ++ [v]))) (μ.set a (.lst (mapD f (xs ++ [v])))) ∧ tyMt "list" (.ref kp) (μ.set a (.lst (mapD f (xs ++ [v])))) = true ∧
      gAppend (.ref kp) [.tup [.ref a, .lst (mapD f (xs ++ [v]))]] (μ.set a (.lst (mapD f (xs ++ [v])))) = .val .non μ' := by
  have hlt := k.lt
  obtain ⟨ps, e1, e2, e3⟩ := k
  have hs : mapD f (xs ++ [v]) = mapD f xs ++ [f v] := (mapD_snoc (f := f)).symm
  have hp : mapD (prF f) (ps ++ [(a, xs ++ [v])]) = mapD (prF f) ps ++ [.tup [.ref a, .lst (mapD f (xs ++ [v]))]] := (mapD_snoc (f := prF f)).symm
  have g1 : (μ.set a (.lst (mapD f (xs ++ [v]))))[kp]? = some (.lst (mapD (prF f) ps)) := get_set (u _ _ (Nat.le_refl _) e1) (by omega)
  have g2 : (μ.set a (.lst (mapD f (xs ++ [v]))))[a]? = some (.lst (mapD f (xs ++ [v]))) := get_at ha
  refine ⟨(μ.set a (.lst (mapD f (xs ++ [v])))).set kp (.lst (mapD (prF f) (ps ++ [(a, xs ++ [v])]))), ⟨ps ++ [(a, xs ++ [v])], get_at g1, by rw [List.length_append]; show ps.length + 1 ≤ m + 1; omega, fun p hp' => ?_⟩, fun i x h1 h2 e => get_set (get_set e h2) h1, ?_, isL_ref ha, gList_ref g2, isL_ref g1, ?_⟩
  · rcases List.mem_append.mp hp' with hp' | hp'
    · obtain ⟨q1, q2⟩ := e3 p hp'
      have := get_lt q2
      exact ⟨q1, get_set (get_set (u _ _ (Nat.le_of_lt q1) q2) (by omega)) (by omega)⟩
    · rw [List.mem_singleton.mp hp']
      exact ⟨by show kp < a; omega, get_set g2 (by omega)⟩
  · have hz : (mapD f xs).length < 100000 := by rw [mapD_length]; exact hx
    rw [hs]
    simp only [gAppend, ha, if_pos hz]
  · have hz : (mapD (prF f) ps).length < 100000 := by rw [mapD_length]; omega
    rw [hp]
    simp only [gAppend, g1, if_pos hz]
theorem KB.same {kp m : Nat} (k : KB f kp m μ) {g : α → PyData} (hg : ∀ x, toPy (f x) = some (g x)) (hs : ∀ xs : List α, SeqAt.shaped (.list (xs.map g)) = true) : ∃ ps : List (Nat × List α), μ[kp]? = some (.lst (mapD (prF f) ps)) ∧ ps.length ≤ m ∧ ∀ p ∈ ps, gNe (.ref p.1) (.lst (mapD f p.2)) μ = .val (.bl false) μ ∧ gEq (.ref p.1) (.lst (mapD f p.2)) μ = .val (.bl true) μ := by
  obtain ⟨ps, e1, e2, e3⟩ := k
  refine ⟨ps, e1, e2, fun p hp => ?_⟩
  obtain ⟨_, g1⟩ := e3 p hp
  have e0 : toPy (.lst (mapD f p.2)) = some (.list (p.2.map g)) := by simp only [toPy, toPyL_map hg, Option.map_some]
  exact ⟨gNe_same ((topPy_ref g1).trans e0) e0 (hs p.2), gEq_same ((topPy_ref g1).trans e0) e0 (hs p.2)⟩
end
theorem nilEq (μ : Mu) : gEq (.lst []) (.lst []) μ = .val (.bl true) μ := gEq_same (p := .list []) rfl rfl rfl
theorem nilNe (μ : Mu) : gNe (.lst []) (.lst []) μ = .val (.bl false) μ := gNe_same (p := .list []) rfl rfl rfl
theorem if_T {t : TF} {a b : SF} {ρ : Ro} {μ μ1 : Mu} (h : t ρ μ = .val true μ1) : sIf t a b ρ μ = a ρ μ1 := by
  unfold sIf
  rw [h]
theorem if_F {t : TF} {a b : SF} {ρ : Ro} {μ μ1 : Mu} (h : t ρ μ = .val false μ1) : sIf t a b ρ μ = b ρ μ1 := by
  unfold sIf
  rw [h]
theorem set_same {μ : Mu} {p : Nat} {x : Nd} (h : μ[p]? = some x) : μ.set p x = μ := by
  obtain ⟨hp, e⟩ := List.getElem?_eq_some_iff.mp h
  rw [← e]
  exact List.set_getElem_self hp
end Dn
namespace Dn
theorem seq_if_T {t : TF} {a b c : SF} {ρ : Ro} {μ μ1 : Mu} (h : t ρ μ = .val true μ1) : sSeq (sIf t a b) c ρ μ = sSeq a c ρ μ1 := by
  unfold sSeq
  rw [if_T h]
theorem seq_if_F {t : TF} {a b c : SF} {ρ : Ro} {μ μ1 : Mu} (h : t ρ μ = .val false μ1) : sSeq (sIf t a b) c ρ μ = sSeq b c ρ μ1 := by
  unfold sSeq
  rw [if_F h]
theorem seq_ret {a b : SF} {ρ : Ro} {μ μ1 : Mu} {d : D} (h : a ρ μ = .ret d μ1) : sSeq a b ρ μ = .ret d μ1 := by
  unfold sSeq
  rw [h]
end Dn

/-! Dn36: exceptions with a field: raised (own __init__ that calls the base's), read in a suite. -/
namespace Dn
open PySem PySem.Spec PyProof.Rows L2 HotX
open L2H (HotC Hot1 RoomH PinOk cxH inv_startH)
/-- an own class over ValueError without an __init__: its __init__ is ValueError's -/
structure FiF (K : PySem.W.Frag) (C : Addr) : Prop where
  rd : PySem.W.readsIn K C (.type "type") = true
  ga : PySem.W.specialIn K (.ref C) "__getattribute__" = some (some (.builtin "type.__getattribute__"))
  fd : PySem.W.findCls K (.ref C) (.type "type") "__init__" = some (.val (.builtin "ValueError.__init__"))
theorem units64H {k : Nat} {A : Around} (r : L2H.RoomH k A) : A.units + 64 < cLine := by have := units65H r; omega
theorem vals_head {v : V} {vs : List V} {us : List Value} (r : Vals (v :: vs) us) : ∃ u ur, us = u :: ur ∧ RelV v u ∧ Vals vs ur := by
  cases r with
  | cons a b => exact ⟨_, _, rfl, a, b⟩
section
variable {X : Cx} {e : Expr} {es : List Expr} {ta : TA} {x : Str} {C : Addr} {p1 p2 pos : Pos}
theorem pe_finit {pl : Sem Bool} (hg : Gl X x) (hm : X.mg x = some (.ref C)) (F : FiF X.K C) (ha : PA X (e :: es) ta) (hdb : (x == ("__debug__" : Str)) = false := by decide)
    (hc : eval (.Call (.Attribute (.Name x p1) "__init__" p2) (e :: es) [] pos) X.env = (do
      let ov ← eval (.Name x p1) X.env
      standAt p2.atName
      let (fv, fs) ← holding [ov] (getMethod ov "__init__" pl)
      callWith pos fv fs (backTo pos (starEach (e :: es) X.env)) (backToKw pos (keywordEach [] X.env))) := by rfl)
    (he : starEach (e :: es) X.env = (false, eval e X.env) :: starEach es X.env := by rfl) (hpl : (backTo pos (starEach es X.env)).any (·.1) = false := by rfl) :
    PE X (.Call (.Attribute (.Name x p1) "__init__" p2) (e :: es) [] pos) (tVeI X.K ta) := by
  refine ⟨fun pins s σ H Q I h => PySem.W.methodCall_KW (ld_glob I hg hm ?_ hdb) hc⟩
  refine PySem.W.method_cls I.kIn F.ga (PySem.W.cls_value I.kIn F.rd F.fd (by decide +kernel) ?_)
  show wpAny _ _ (callWith pos (Value.builtin "ValueError.__init__") [] (backTo pos (starEach (e :: es) X.env)) []) _ _ _
  refine PyProof.Rows.callWith_method1 (thn (ha.run pos pins _ σ H _ (I.tok _) h) fun us s1 hh => ?_) he hpl
  obtain ⟨vs, H1, J, r, a, D, ws, rfl, hl, T, ea, q⟩ := hh
  obtain ⟨u, ur, rfl, ra, rw⟩ := vals_head r
  obtain rfl : u = Value.ref a := ra
  refine oinit_ok T J ea ?_ fun s' J' => ⟨.non, H1, J', rfl, q⟩
  have := Paired.length rw
  rw [sizeLine_eq]
  omega
end
/-- what making such an exception keeps, where nothing is handled -/
theorem pmk_oexN {X : Cx} {Y : CXT} {e : Expr} {es : List Expr} {ta : TA} {p pos : Pos} {x : Str} {C g : Addr} {k : Nat} {fd : FuncData} {ps : List Str} {sp : Sp} (T : OexC X.K C) (iC : PySem.W.findIn X.K (.ref C) "__init__" = some (some (.ref g))) (tI : PySem.W.typeIn X.K (.ref g) = some (.type "function"))
    (F1 : FnOk X.prog X.w X.K X.mg X.base Y k g fd ps sp) (hr : Room (k + 1) X.A) (hb : Binds X.K fd ps []) (hx : Passes Y X (fun _ _ _ => False)) (hg : Gl X x) (hm : X.mg x = some (.ref C)) (ha : PA X (e :: es) ta)
    (hdb : (x == ("__debug__" : Str)) = false := by decide) (he : starEach (e :: es) X.env = (false, eval e X.env) :: starEach es X.env := by rfl) (hpl : (backTo pos (starEach es X.env)).any (·.1) = false := by rfl) :
    L2N.PMk X (.Call (.Name x p) (e :: es) [] pos) (tMkO C sp [] ta) := by
  intro pn0 s0 σ H Q I hh
  obtain ⟨n1, n2, n3, n4, mr, n5, n6, n7, n8, n9, m0, m1, m2, m3, m5, hC, hmr⟩ := T.cls
  refine wpAny_Call_Name_kw (ld_glob I hg hm ?_ hdb)
  refine PySem.W.callWith_K (h₀ := X.base) I.ok.mod.kin T.kC (thn (ha.run pos pn0 s0 σ H _ I hh) fun us sb ⟨vs, Hb, J, rv, hz, hq⟩ => ⟨J.kIn, ?_⟩) he hpl
  show wpAny _ _ (call (.ref C) us) _ _ _
  obtain ⟨hp, gs, dw, tt, oo⟩ := sb
  have big : hp.objs.size ≤ hp.objs.size + 1 := Nat.le_succ _
  have new : Hb (hp.objs.size + 1) = none := J.hok.fresh big
  have hq := hq (hp.objs.size + 1) new
  rw [List.append_nil] at hq
  have stay : ∀ b o, hp.get? b = some o → ((hp.push (PySem.W.kdv_tup us)).push (PySem.HandSPX.excO C hp.objs.size)).get? b = some o := fun b o z => Heap.get?_push_of_some _ (Heap.get?_push_of_some _ z)
  have there : ((hp.push (PySem.W.kdv_tup us)).push (PySem.HandSPX.excO C hp.objs.size)).get? (hp.objs.size + 1) = some (PySem.HandSPX.excO C hp.objs.size) := by heap_get
  have J2 : Inv X pn0 σ (upd Hb (hp.objs.size + 1) (exo (hp.objs.size + 1) C none)) ⟨(hp.push (PySem.W.kdv_tup us)).push (PySem.HandSPX.excO C hp.objs.size), gs, dw, tt, oo⟩ := J.laid (t' := tt) (a := hp.objs.size + 1) (o := exo (hp.objs.size + 1) C none) (h' := (hp.push (PySem.W.kdv_tup us)).push (PySem.HandSPX.excO C hp.objs.size)) stay big (exo_ok there)
  have rv2 : Vals (V.ref (hp.objs.size + 1) :: vs) (Value.ref (hp.objs.size + 1) :: us) := .cons rfl rv
  have len : (Value.ref (hp.objs.size + 1) :: us ++ []).length = ps.length := by
    rw [List.append_nil, ← F1.len _ _ _ _ hq]
    exact rv2.length.symm
  have few : us.length ≤ sizeLine := by
    have := Paired.length rv
    rw [sizeLine_eq]
    omega
  have bd := hb _ (Value.ref (hp.objs.size + 1) :: us) J2.kIn len
  rw [List.append_nil] at bd
  refine wpAny_call (PySem.HandSPX.call_own F.excBase_ValueError (fun Z => PySem.HandSPX.refsVE_contains Z mr hmr) (J.kIn _ _ hC) (PySem.W.looks_findIn J.kIn iC) (fun me => PySem.W.bind_fn J.kIn me tI) few (codeAny_mono (F1.run _ X.stack _ _ ⟨Value.ref (hp.objs.size + 1) :: us, []⟩ (Value.ref (hp.objs.size + 1) :: us) _ _ (fun _ _ _ => False) (hr.make C us []) (J2.env0.make C us []) bd rv2 hq) fun rr sc hc => ?_))
  cases rr with
  | error er => exact hx pn0 σ _ _ er sc J2 hc
  | ok fl =>
    cases fl with
    | next => exact False.elim hc
    | brk => exact False.elim hc
    | cont => exact False.elim hc
    | ret u =>
      obtain ⟨v, Hc, oc, bare, un, hokc, rc, ev, dd, fs, ea, ed, hdn, qq⟩ := hc
      subst ev
      obtain ⟨hd, gd, wd, td, od⟩ := sc
      obtain ⟨t9, G, J9, kG, gn, at9, n9⟩ := mk_end0 (d2 := wd) (t2 := td) J big stay un hokc oc bare ea ed hdn
      refine ⟨rc, hp.objs.size + 1, _, _, ⟨G, gd, wd, td, od⟩, _, .ref C, some dd, rfl, J9, kG, gn, at9, ⟨rfl, rfl, fun ws hw => ?_⟩, rfl, rfl, n9, rfl, bare, raises_own T.exC T.tyC, qq⟩
      cases hw
      rfl
/-- what such an __init__ promises -/
def spI (K : PySem.W.Frag) (C : Addr) (f : Str) : Sp := fun vs H Q _ => ∃ (a : Addr) (y : V), vs = [.ref a, y] ∧ OexC K C ∧ PySem.W.findIn K (.ref C) f = some none ∧ H a = some (exo a C none) ∧
  ∀ dx, H dx = none → dx ≠ a → Q .non (upd (upd H dx (exd dx [(f, y)])) a (exo a C (some dx)))
theorem fnI {P : Program} {w : World} {K : PySem.W.Frag} {mg : Str → Option Value} {base : Heap} {x qual y m f : Str} {st : Stmt} {g : Addr} {fd : FuncData} {k : Nat} {C : Addr} (F : Fun K x qual st g fd) (S : FnScope ["self", y] ["self", y] (defScope st))
    (hb : ∀ (cdv : Value) (A : Around) (outer : List Env) (s : Shared) (H : Hp) (E : XK), PSs (cxOf CX0 P w K mg base ["self", y] qual (defScope st) g cdv A outer s H E).nox (defBody st) (tSeq (tDrop (tVeI K (tCons (tVar 0) (tCons (tC (.str m)) tNil)))) (tOst K f (tVar 0) (tVar 1)))) :
    FnOk P w K mg base CX0 (k + 1) g fd ["self", y] (spI K C f) := by
  refine F.ok S (fun vs H Q E h => ?_) fun cdv A outer s H vs Q E hr h => ⟨_, hb cdv A outer s H E, ?_⟩
  · obtain ⟨a, y, rfl, _⟩ := h
    rfl
  · obtain ⟨a, y, rfl, T, hno, e, q⟩ := h
    exact ⟨.ref a, rfl, a, C, [.str m], rfl, by simp, T, e, y, rfl, .ref a, rfl, a, C, rfl, T, hno, .inl ⟨e, fun dx h1 h2 => q dx h1 h2⟩⟩
@[simp] def sRaiseF (ca : Nat → Addr) (i : Nat) (f : Str) (fe : EF) : SF := fun ρ μ => match fe ρ μ with
  | .val d μ1 => .exc ⟨i, .ref (ca i), [(f, d)]⟩ ρ μ1
  | .exc x μ1 => .exc x ρ μ1
  | .fail => .fail
theorem ds_raiseF {X : Cx} {W : WX} {ca : Nat → Addr} {e : Expr} {fe : EF} {p p2 pos : Pos} {x f : Str} {g : Addr} {k : Nat} {fd : FuncData} {ps : List Str} (i : Nat) (hc : X.calm = true) (tk : L2N.Takes X W) (T : OexC X.K (ca i)) (hno : PySem.W.findIn X.K (.ref (ca i)) f = some none)
    (iC : PySem.W.findIn X.K (.ref (ca i)) "__init__" = some (some (.ref g))) (tI : PySem.W.typeIn X.K (.ref g) = some (.type "function")) (F1 : FnOk X.prog X.w X.K X.mg X.base CX0 k g fd ps (spI X.K (ca i) f)) (hr : Room (k + 1) X.A) (hb : Binds X.K fd ps [])
    (hg : Gl X x) (hm : X.mg x = some (.ref (ca i))) (he : DE X W e fe) (hdb : (x == ("__debug__" : Str)) = false := by decide)
    (hs1 : starEach [e] X.env = (false, eval e X.env) :: starEach [] X.env := by rfl) (hpl : (backTo p2 (starEach [] X.env)).any (·.1) = false := by rfl) :
    DS X W (.Raise (some (.Call (.Name x p) [e] [] p2)) none pos) (sRaiseF ca i f fe) := by
  obtain ⟨te, p1, q1⟩ := he
  refine ⟨_, L2N.ps_raise hc tk (pmk_oexN (Y := CX0) T iC tI F1 hr hb (fun _ _ _ _ _ _ _ h => h.elim) hg hm (pa_cons p1 pa_nil hs1) hdb hs1 hpl), ⟨fun {H0 S0 ad0 tmp ρ μ σ H E} R h => ?_⟩⟩
  refine q1.run R ?_
  unfold sRaiseF at h
  cases e1 : fe ρ μ with
  | fail => rw [e1] at h; exact h.elim
  | exc z μ1 => rw [e1] at h; exact fun cls dd H r => h cls dd σ H r
  | val d μ1 =>
    rw [e1] at h
    intro v H1 R1
    obtain ⟨S, ad, c, rd⟩ := R1.one
    refine ⟨by simp, fun a ha => ⟨a, v, rfl, T, hno, upd_same, fun dx h1 h2 => ⟨rfl, dx, [(f, v)], upd_same, ?_, ?_, ?_⟩⟩⟩
    · rw [upd_ne h2]
      exact upd_same
    · rw [upd_ne h2] at h1
      exact h1
    · have hn : H1 dx = none := by
        rw [upd_ne h2] at h1
        exact h1
      have eq : upd (del (upd (upd (upd H1 a (exo a (ca i) none)) dx (exd dx [(f, v)])) a (exo a (ca i) (some dx))) a) dx (.xd [(f, v)]) = upd H1 dx (.xd [(f, v)]) := by
        funext b
        by_cases hb : b = dx
        · rw [hb, upd_same, upd_same]
        · rw [upd_ne hb, upd_ne hb]
          by_cases ha2 : b = a
          · rw [ha2, del_same, ha]
          · rw [del_ne ha2, upd_ne ha2, upd_ne hb, upd_ne ha2]
      rw [eq]
      have hS : S dx = none := (c.fresh hn).1
      refine h _ _ _ _ ⟨rfl, upd S dx (.xd [(f, v)]), ad, c.stab hn _, .inr ⟨by simp, dx, [(f, v)], rfl, upd_same, rfl, .cons (rd.mono (same_new hS) adp_refl) .nil⟩⟩
/-- what a class with such an __init__ (at g; its field f) must have -/
structure XiF (K : PySem.W.Frag) (C g : Addr) (f : Str) : Prop where
  ox : OexC K C
  it : PySem.W.findIn K (.ref C) "__init__" = some (some (.ref g))
  ty : PySem.W.typeIn K (.ref g) = some (.type "function")
  no : PySem.W.findIn K (.ref C) f = some none
/-! a field of what is caught -/
@[simp] def eXF (a : Addr) (i : XI) (is : List Nat) (f : Str) (fe : EF) : EF := fun ρ μ => (fe ρ μ).bind fun d μ1 => match d with
  | .exn a' d ks ds => if a' = a ∧ i.dd = some d ∧ is.contains i.ix = true then (match (ks.zip ds).lookup f with
    | some y => .val y μ1
    | none => .fail) else .fail
  | _ => .fail
theorem zip_lookup {K : PySem.W.Frag} {S : Hp} {ad : Ad} {f : Str} {y : D} : ∀ {ws : List (Str × V)} {ks : List Str} {ds : List D}, ws.map (·.1) = ks → RpL K S ad (ws.map (·.2)) ds → (ks.zip ds).lookup f = some y → ∃ v, ws.lookup f = some v ∧ Rp K S ad v y
  | [], _, _, h, r, e => by
    subst h
    simp at e
  | (k, u) :: ws, _, ds, h, r, e => by
    subst h
    cases r with
    | cons r1 r2 =>
      rename_i d ds
      simp only [List.map_cons, List.zip_cons_cons, List.lookup] at e ⊢
      cases q : (f == k) with
      | true => rw [q] at e; cases e; exact ⟨u, rfl, r1⟩
      | false => rw [q] at e; exact zip_lookup rfl r2 e
theorem de_xf {X : Cx} {W : WX} {ca : Nat → Addr} {a : Addr} {i : XI} {e : Expr} {fe : EF} {pos : Pos} {f : Str} (hE : HotE ca X a i) (is : List Nat) (h : ∀ j ∈ is, ExcC X.K (ca j) ∧ PySem.W.findIn X.K (.ref (ca j)) f = some none) (he : DE X W e fe) (hb : attributeBase e f X.env (eval e X.env) = eval e X.env := by rfl) :
    DE X W (.Attribute e f pos) (eXF a i is f fe) := by
  obtain ⟨te, p1, q1⟩ := he
  obtain ⟨oe, ⟨_, vs, hv, _⟩, hp, hz⟩ := hE
  refine ⟨fun σ H Q => te σ H fun x H1 => x = .ref a ∧ i.ix ∈ is ∧ ∃ (d : Addr) (fs : List (Str × V)) (v : V), i.dd = some d ∧ H1 d = some (.xd fs) ∧ fs.lookup f = some v ∧ Q v H1, ⟨fun pins s σ H Q I hh => ?_⟩, ⟨fun {H0 S0 ad0 tmp ρ μ σ H Q} R k => ?_⟩⟩
  · refine attr_of hb (thn (p1.run pins s σ H _ I hh) fun u s1 ⟨x, H1, J, rx, ex, hi, d, fs, v, ed, eH, l, q⟩ => ?_)
    subst ex
    obtain rfl : u = Value.ref a := rx
    have hget := (J.pin (a, oe) (List.mem_append_left _ hp)).1
    have hx : ObjOk X.prog X.w H1 s1.heap d (.xd fs) := J.hok d _ eH
    obtain ⟨mA, hns, hr⟩ := hx
    obtain ⟨od, ho, hl⟩ := lookIn_ns hns
    obtain ⟨u, hu, ru⟩ := RelO.some_of (v := v) (o := mA f) (by rw [← l]; exact hr f)
    obtain ⟨EC, hno⟩ := h _ hi
    have IA : PySem.W.InstAt s1.heap a oe (ca i.ix) (some od) := ⟨hget, hz.1, by unfold PySem.W.notCls; rw [hv] <;> rfl, by rw [hz.2.1, ed]; exact ho⟩
    exact HandSPX.exc_get J.kIn IA EC.hg EC.hk EC.hs (PySem.W.findObj_own EC.hd hno rfl (by rw [hl, hu])) (handed_of ru) ⟨v, H1, J.tok _, ru, q⟩
  · refine q1.run R ?_
    unfold eXF at k
    cases e1 : fe ρ μ with
    | fail => rw [e1] at k; exact k.elim
    | exc z μ1 => rw [e1] at k; exact k
    | val d μ1 =>
      rw [e1] at k
      simp only [bind_val] at k
      intro x H1 R1
      obtain ⟨S, ad, c, rd⟩ := R1.one
      cases rd <;> first | exact k.elim | skip
      rename_i a' dd ws ks ds h1 h2 h3
      simp only at k
      split at k
      · rename_i hh
        obtain ⟨rfl, hd, hi⟩ := hh
        split at k
        · rename_i y hy
          obtain ⟨v, l1, l2⟩ := zip_lookup h2 h3 hy
          exact ⟨rfl, by simpa using hi, dd, ws, v, hd, c.sh _ _ h1, l1, k _ _ ⟨S, ad, c.push l2⟩⟩
        · exact k.elim
      · exact k.elim
end Dn

/-! Dn37: sorted, min, max of whole numbers (a default, too); dicts copied, their keys, pop; lists cleared, extended. -/
namespace Dn
open PySem PySem.Spec PyProof.Rows L2
def srtI (ns : List Int) : List Int := ns.mergeSort fun a b => decide (a ≤ b)
theorem srtI_perm (ns : List Int) : (srtI ns).Perm ns := List.mergeSort_perm ns _
theorem srtI_up (ns : List Int) : (srtI ns).Pairwise (· ≤ ·) := by
  have h := List.pairwise_mergeSort (le := fun a b : Int => decide (a ≤ b)) (fun a b c h1 h2 => by simp only [decide_eq_true_eq] at *; omega) (fun a b => by simp only [Bool.or_eq_true, decide_eq_true_eq]; omega) ns
  exact h.imp fun h => by simpa using h
theorem up_uniq : ∀ {as bs : List Int}, as.Perm bs → as.Pairwise (· ≤ ·) → bs.Pairwise (· ≤ ·) → as = bs
  | [], bs, p, _, _ => (List.Perm.eq_nil p.symm).symm
  | a :: as, [], p, _, _ => absurd p.length_eq (by simp)
  | a :: as, b :: bs, p, ha, hb => by
    have e : a = b := by
      have h1 : a ∈ b :: bs := p.mem_iff.mp List.mem_cons_self
      have h2 : b ∈ a :: as := p.mem_iff.mpr List.mem_cons_self
      have l1 : b ≤ a := by
        rcases List.mem_cons.mp h1 with h | h
        · omega
        · exact (List.pairwise_cons.mp hb).1 a h
      have l2 : a ≤ b := by
        rcases List.mem_cons.mp h2 with h | h
        · omega
        · exact (List.pairwise_cons.mp ha).1 b h
      omega
    subst e
    rw [up_uniq (List.Perm.cons_inv p) (List.pairwise_cons.mp ha).2 (List.pairwise_cons.mp hb).2]
theorem srtI_uniq {as bs : List Int} (h : as.Perm bs) (hu : as.Pairwise (· ≤ ·)) : as = srtI bs := up_uniq (h.trans (srtI_perm bs).symm) hu (srtI_up bs)
theorem srtI_mem {ns : List Int} {z : Int} : z ∈ srtI ns ↔ z ∈ ns := (srtI_perm ns).mem_iff
theorem srtI_len (ns : List Int) : (srtI ns).length = ns.length := (srtI_perm ns).length_eq
def minI : List Int → Int
  | [] => 0
  | a :: r => r.foldl min a
def maxI : List Int → Int
  | [] => 0
  | a :: r => r.foldl max a
theorem foldmax (r : List Int) : ∀ a : Int, (r.foldl max a ∈ a :: r) ∧ ∀ y ∈ a :: r, y ≤ r.foldl max a := by
  induction r with
  | nil => intro a; exact ⟨List.mem_cons_self, fun y h => by rw [List.mem_singleton.mp h]; exact Int.le_refl _⟩
  | cons b r ih =>
    intro a
    obtain ⟨h1, h2⟩ := ih (max a b)
    rw [List.foldl_cons]
    refine ⟨?_, fun y hy => ?_⟩
    · rcases List.mem_cons.mp h1 with h | h
      · rw [h]
        by_cases q : a ≤ b
        · rw [Int.max_eq_right q]; exact List.mem_cons_of_mem _ List.mem_cons_self
        · rw [Int.max_eq_left (by omega)]; exact List.mem_cons_self
      · exact List.mem_cons_of_mem _ (List.mem_cons_of_mem _ h)
    · have hm := h2 (max a b) List.mem_cons_self
      rcases List.mem_cons.mp hy with h | h
      · omega
      · rcases List.mem_cons.mp h with h | h
        · omega
        · exact h2 y (List.mem_cons_of_mem _ h)
theorem foldmin (r : List Int) : ∀ a : Int, (r.foldl min a ∈ a :: r) ∧ ∀ y ∈ a :: r, r.foldl min a ≤ y := by
  induction r with
  | nil => intro a; exact ⟨List.mem_cons_self, fun y h => by rw [List.mem_singleton.mp h]; exact Int.le_refl _⟩
  | cons b r ih =>
    intro a
    obtain ⟨h1, h2⟩ := ih (min a b)
    rw [List.foldl_cons]
    refine ⟨?_, fun y hy => ?_⟩
    · rcases List.mem_cons.mp h1 with h | h
      · rw [h]
        by_cases q : a ≤ b
        · rw [Int.min_eq_left q]; exact List.mem_cons_self
        · rw [Int.min_eq_right (by omega)]; exact List.mem_cons_of_mem _ List.mem_cons_self
      · exact List.mem_cons_of_mem _ (List.mem_cons_of_mem _ h)
    · have hm := h2 (min a b) List.mem_cons_self
      rcases List.mem_cons.mp hy with h | h
      · omega
      · rcases List.mem_cons.mp h with h | h
        · omega
        · exact h2 y (List.mem_cons_of_mem _ h)
theorem maxI_mem {ns : List Int} (h : ns ≠ []) : maxI ns ∈ ns := by
  cases ns with
  | nil => exact absurd rfl h
  | cons a r => exact (foldmax r a).1
theorem maxI_ge {ns : List Int} {y : Int} (h : y ∈ ns) : y ≤ maxI ns := by
  cases ns with
  | nil => simp at h
  | cons a r => exact (foldmax r a).2 y h
theorem minI_mem {ns : List Int} (h : ns ≠ []) : minI ns ∈ ns := by
  cases ns with
  | nil => exact absurd rfl h
  | cons a r => exact (foldmin r a).1
theorem minI_le {ns : List Int} {y : Int} (h : y ∈ ns) : minI ns ≤ y := by
  cases ns with
  | nil => simp at h
  | cons a r => exact (foldmin r a).2 y h
theorem rpL_int : ∀ {K : PySem.W.Frag} {S : Hp} {ad : Ad} (ns : List Int), RpL K S ad (ns.map V.int) (mapD D.int ns) := fun ns => rpL_ints ns
/-! sorted(..) -/
@[simp] def gSortI : List D → Mu → Res D := fun ds μ => match ds with
  | [d] => (match (lsOf d μ).bind intsD with
    | some ns => .val (.lst (mapD D.int (srtI ns))) μ
    | none => .fail)
  | _ => .fail
/-- the keys of a dict that are whole numbers -/
@[simp] def inlK : List Key → Option (List Int)
  | [] => some []
  | .inl i :: r => (inlK r).map (i :: ·)
  | _ => none
theorem inlK_map (ns : List Int) : inlK (ns.map Sum.inl) = some ns := by
  induction ns with
  | nil => rfl
  | cons a r ih => simp [ih]
theorem inlK_at : ∀ {ks : List Key} {ns : List Int}, inlK ks = some ns → ks = ns.map Sum.inl
  | [], ns, h => by simp at h; subst h; rfl
  | .inl i :: r, ns, h => by
    simp only [inlK, Option.map_eq_some_iff] at h
    obtain ⟨ms, h1, rfl⟩ := h
    rw [inlK_at h1]
    rfl
  | .inr _ :: _, _, h => by simp at h
@[simp] def gSortD : List D → Mu → Res D := fun ds μ => match ds with
  | [.ref n] => (match μ[n]? with
    | some (.dK kvs) => (match inlK (kvs.map (·.1)) with
      | some ns => if ns.length < 64 then .val (.lst (mapD D.int (srtI ns))) μ else .fail
      | none => .fail)
    | _ => .fail)
  | _ => .fail
section
variable {K : PySem.W.Frag} {W : WX} {X : Cx}
theorem cb_sortI : CbO X W (.builtin "sorted") gSortI := ⟨_, cr_sortedI, ⟨fun {H0 S0 ad0 tmp ρ μ σ H Q xs ds} hl R k => by
  obtain ⟨S, ad, c, r⟩ := R.args hl
  unfold gSortI at k
  split at k
  · rename_i d
    obtain ⟨v, rfl, rv⟩ := rpL1 r
    split at k
    · rename_i ns hs
      obtain ⟨es, h1, h2⟩ := Option.bind_eq_some_iff.mp hs
      obtain ⟨a, vs, rfl, q, rr⟩ := lsOf_at c rv h1
      have hv := intsD_at rr h2
      subst hv
      refine ⟨a, ns, rfl, .of q, fun ms p pm up hp => ?_⟩
      rw [srtI_uniq pm up]
      exact k _ _ (newLst c (rpL_int _) hp)
    · exact k.elim
  · exact k.elim⟩⟩
theorem cb_sortD (hc : X.calm = true) : CbO X W (.builtin "sorted") gSortD := ⟨_, call_sortedDI hc, ⟨fun {H0 S0 ad0 tmp ρ μ σ H Q xs ds} hl R k => by
  obtain ⟨S, ad, c, r⟩ := R.args hl
  unfold gSortD at k
  split at k
  · rename_i n
    obtain ⟨v, rfl, rv⟩ := rpL1 r
    cases rv with
    | ref ha =>
      split at k
      · rename_i kvs hm
        split at k
        · rename_i ns hn
          split at k
          · rename_i h64
            obtain ⟨ws, g1, g2⟩ := (c.at_ n _ _ ha hm).dr
            refine ⟨_, ws, ns, rfl, .inl g1, by rw [g2.keys]; exact inlK_at hn, h64, fun ms p pm up hp => ?_⟩
            rw [srtI_uniq pm up]
            exact k _ _ (newLst c (rpL_int _) hp)
          · exact k.elim
        · exact k.elim
      · exact k.elim
  · exact k.elim⟩⟩
/-! .. as a cell -/
@[simp] def gSortDN : List D → Mu → Res D := fun ds μ => match ds with
  | [.ref n] => (match μ[n]? with
    | some (.dK kvs) => (match inlK (kvs.map (·.1)) with
      | some ns => if ns.length < 64 then .val (.ref μ.length) (μ ++ [.lst (mapD D.int (srtI ns))]) else .fail
      | none => .fail)
    | _ => .fail)
  | _ => .fail
theorem cb_sortDN (hc : X.calm = true) : CbO X W (.builtin "sorted") gSortDN := ⟨_, call_sortedDI hc, ⟨fun {H0 S0 ad0 tmp ρ μ σ H Q xs ds} hl R k => by
  obtain ⟨S, ad, c, r⟩ := R.args hl
  unfold gSortDN at k
  split at k
  · rename_i n
    obtain ⟨v, rfl, rv⟩ := rpL1 r
    cases rv with
    | ref ha =>
      split at k
      · rename_i kvs hm
        split at k
        · rename_i ns hn
          split at k
          · rename_i h64
            obtain ⟨ws, g1, g2⟩ := (c.at_ n _ _ ha hm).dr
            refine ⟨_, ws, ns, rfl, .inl g1, by rw [g2.keys]; exact inlK_at hn, h64, fun ms p pm up hp => ?_⟩
            rw [srtI_uniq pm up]
            exact k _ _ (newCell c (rpL_int _) hp)
          · exact k.elim
        · exact k.elim
      · exact k.elim
  · exact k.elim⟩⟩
/-! min, max -/
@[simp] def gMinI : List D → Mu → Res D := fun ds μ => match ds with
  | [d] => (match (lsOf d μ).bind intsD with
    | some ns => if ns = [] then .fail else .val (.int (minI ns)) μ
    | none => .fail)
  | _ => .fail
@[simp] def gMaxI : List D → Mu → Res D := fun ds μ => match ds with
  | [d] => (match (lsOf d μ).bind intsD with
    | some ns => if ns = [] then .fail else .val (.int (maxI ns)) μ
    | none => .fail)
  | _ => .fail
theorem cb_minI (hc : X.calm = true) : CbO X W (.builtin "min") gMinI := ⟨_, cr_min hc, ⟨fun {H0 S0 ad0 tmp ρ μ σ H Q xs ds} hl R k => by
  obtain ⟨S, ad, c, r⟩ := R.args hl
  unfold gMinI at k
  split at k
  · obtain ⟨v, rfl, rv⟩ := rpL1 r
    split at k
    · rename_i ns hs
      obtain ⟨es, h1, h2⟩ := Option.bind_eq_some_iff.mp hs
      obtain ⟨a, vs, rfl, q, rr⟩ := lsOf_at c rv h1
      have hv := intsD_at rr h2
      subst hv
      split at k
      · exact k.elim
      · rename_i hne
        refine ⟨a, ns, rfl, .of q, List.length_pos_iff.mpr hne, fun m hm hle => ?_⟩
        have e : m = minI ns := by
          have := hle _ (minI_mem hne)
          have := minI_le hm
          omega
        rw [e]
        exact k _ _ (c.flat (flat_int _))
    · exact k.elim
  · exact k.elim⟩⟩
theorem cb_maxI (hc : X.calm = true) : CbO X W (.builtin "max") gMaxI := ⟨_, cr_max hc, ⟨fun {H0 S0 ad0 tmp ρ μ σ H Q xs ds} hl R k => by
  obtain ⟨S, ad, c, r⟩ := R.args hl
  unfold gMaxI at k
  split at k
  · obtain ⟨v, rfl, rv⟩ := rpL1 r
    split at k
    · rename_i ns hs
      obtain ⟨es, h1, h2⟩ := Option.bind_eq_some_iff.mp hs
      obtain ⟨a, vs, rfl, q, rr⟩ := lsOf_at c rv h1
      have hv := intsD_at rr h2
      subst hv
      split at k
      · exact k.elim
      · rename_i hne
        refine ⟨a, ns, rfl, .of q, List.length_pos_iff.mpr hne, fun m hm hle => ?_⟩
        have e : m = maxI ns := by
          have := hle _ (maxI_mem hne)
          have := maxI_ge hm
          omega
        rw [e]
        exact k _ _ (c.flat (flat_int _))
    · exact k.elim
  · exact k.elim⟩⟩
/-- max(xs, default=z) -/
def rMaxDf (K : PySem.W.Frag) : List V → List V → Hp → VK → Prop := fun xs zs H Q => ∃ (a : Addr) (ns : List Int) (z : V), xs = [.ref a] ∧ zs = [z] ∧ SqL K H a (ns.map V.int) ∧ (ns = [] → Q z H) ∧ (ns ≠ [] → Q (.int (maxI ns)) H)
theorem alike_ints (ns : List Int) : PySem.W.AlikeAll (ns.map PyData.int) := ⟨fun x hx y hy => by
  obtain ⟨i, _, rfl⟩ := List.mem_map.mp hx
  obtain ⟨j, _, rfl⟩ := List.mem_map.mp hy
  rfl, fun x hx e => by
  obtain ⟨i, _, rfl⟩ := List.mem_map.mp hx
  cases e⟩
theorem call_maxDf (hc : X.calm = true) (hu : X.A.units + 64 < cLine) : CallRK X (.builtin "max") ["default"] (rMaxDf X.K) := fun pins s σ H xs zs us ws Q I r rz h => by
  obtain ⟨a, ns, z, rfl, rfl, hs, q1, q2⟩ := h
  obtain ⟨its, rv, pl, sz⟩ := I.list hs
  obtain ⟨u, eu, ru⟩ := vals1 r
  subst eu
  cases ru
  obtain ⟨w, ew, rw'⟩ := vals1 rz
  subst ew
  have hd : PyData.depthAll (ns.map PyData.int) ≤ 0 := dep_map fun x _ => by simp
  have hr : ReadsAll s.heap its.toArray.toList (ns.map PyData.int) [] := by
    have := reads_ints (hp := s.heap) rv.ints
    simpa using this
  refine PySem.W.max_list_default (I.ok.hd hc) pl.isList hr (alike_ints ns) (by omega) (fun e h' tk hk => ?_) fun y ys i v h' tk bs e hv hrd hk => ?_
  · exact ⟨z, H, I.kept hk, rw', q1 (List.map_eq_nil_iff.mp e)⟩
  · cases ns with
    | nil => cases e
    | cons n r2 =>
      rw [List.map_cons] at e
      injection e with e1 e2
      subst e1 e2
      rw [PySem.W.maxD_ints] at hrd
      cases hrd
      exact ⟨.int (maxI (n :: r2)), H, I.kept hk, ⟨_, rfl⟩, q2 (by simp)⟩
@[simp] def eMaxDf (f z : EF) : EF := fun ρ μ => (f ρ μ).bind fun d μ1 => (z ρ μ1).bind fun y μ2 => match (lsOf d μ2).bind intsD with
  | some [] => .val y μ2
  | some (n :: r) => .val (.int (maxI (n :: r))) μ2
  | none => .fail
theorem de_maxDf {e ez : Expr} {fe fz : EF} {p pos kpos : Pos} (hc : X.calm = true) (hu : X.A.units + 64 < cLine) (hg : Gl X "max") (hm : X.mg "max" = none) (he : DE X W e fe) (hz : DE X W ez fz) (hse : starEach [e] X.env = (false, eval e X.env) :: starEach [] X.env := by rfl)
    (h1 : backTo pos (starEach [e] X.env) = (false, eval e X.env) :: backTo pos (starEach [] X.env) := by rfl) (h2 : (backTo pos (starEach [e] X.env)).any (·.1) = false := by rfl) : DE X W (.Call (.Name "max" p) [e] [⟨some "default", ez, kpos⟩] pos) (eMaxDf fe fz) := by
  obtain ⟨te, p1, q1⟩ := he
  obtain ⟨tz, p2, q2⟩ := hz
  refine ⟨_, pe_callBK (call_maxDf hc hu) hg hm rfl (pa_cons p1 pa_nil hse) (pk_cons p2 pk_nil) (by decide) (by decide) h1 h2, ⟨fun {H0 S0 ad0 tmp ρ μ σ H Q} R k => ?_⟩⟩
  refine q1.run R ?_
  unfold eMaxDf at k
  cases e1 : fe ρ μ with
  | fail => rw [e1] at k; exact k.elim
  | exc z μ1 => rw [e1] at k; exact k
  | val d μ1 =>
    rw [e1] at k
    simp only [bind_val] at k
    intro v H1 R1
    refine q2.run R1 ?_
    cases e2 : fz ρ μ1 with
    | fail => rw [e2] at k; exact k.elim
    | exc z μ2 => rw [e2] at k; exact fun cls dd H r => k cls dd H r.pop
    | val y μ2 =>
      rw [e2] at k
      simp only [bind_val] at k
      intro u H2 R2
      obtain ⟨S, ad, c, rx, ry⟩ := R2.two
      split at k
      · rename_i hs
        obtain ⟨es, h1, h2⟩ := Option.bind_eq_some_iff.mp hs
        obtain ⟨a, vs, rfl, q, rr⟩ := lsOf_at c rx h1
        have hv := intsD_at rr h2
        subst hv
        exact ⟨a, [], u, rfl, rfl, .of q, fun _ => k _ _ ⟨S, ad, c.push ry⟩, fun z => absurd rfl z⟩
      · rename_i n r hs
        obtain ⟨es, h1, h2⟩ := Option.bind_eq_some_iff.mp hs
        obtain ⟨a, vs, rfl, q, rr⟩ := lsOf_at c rx h1
        have hv := intsD_at rr h2
        subst hv
        exact ⟨a, n :: r, u, rfl, rfl, .of q, fun z => absurd z (by simp), fun _ => k _ _ (c.flat (flat_int _))⟩
      · exact k.elim
/-! dict(d), dict(pairs), list(d) -/
@[simp] def gDictC : List D → Mu → Res D := fun ds μ => match ds with
  | [.ref n] => (match μ[n]? with
    | some (.dK kvs) => .val (.ref μ.length) (μ ++ [.dK kvs])
    | _ => .fail)
  | _ => .fail
theorem newDK {H0 S0 : Hp} {ad0 : Ad} {S : Hp} {ad : Ad} {tmp : List (V × D)} {ρ : Ro} {μ : Mu} {σ : L2.St} {H : Hp} {ws : List (Key × V)} {kvs : List (Key × D)} {p : Addr} (c : Core K H0 S0 ad0 S ad tmp ρ μ σ H) (r : DR K S ad ws kvs) (h : H p = none) : Rel K H0 S0 ad0 ((.ref p, .ref μ.length) :: tmp) ρ (μ ++ [.dK kvs]) σ (upd H p (.dK ws)) :=
  newC c h ⟨ws, upd_same, r.keys, (r.mono (Same.refl S) adp_more).vals⟩
theorem cb_dictC : CbO X W (.type "dict") gDictC := ⟨_, call_dictD, ⟨fun {H0 S0 ad0 tmp ρ μ σ H Q xs ds} hl R k => by
  obtain ⟨S, ad, c, r⟩ := R.args hl
  unfold gDictC at k
  split at k
  · rename_i n
    obtain ⟨v, rfl, rv⟩ := rpL1 r
    cases rv with
    | ref ha =>
      split at k
      · rename_i kvs hm
        obtain ⟨ws, g1, g2⟩ := (c.at_ n _ _ ha hm).dr
        exact ⟨_, ws, rfl, .inl g1, fun p hp => k _ _ (newDK c g2 hp)⟩
      · exact k.elim
  · exact k.elim⟩⟩
@[simp] def gListD : List D → Mu → Res D := fun ds μ => match ds with
  | [.ref n] => (match μ[n]? with
    | some (.dK kvs) => .val (.lst (mapD kD (kvs.map (·.1)))) μ
    | _ => .fail)
  | _ => .fail
theorem rpL_keys {S : Hp} {ad : Ad} (ks : List Key) : RpL K S ad (ks.map kV) (mapD kD ks) := ksD_rp ks
theorem cb_listD (hc : X.calm = true) : CbO X W (.type "list") gListD := ⟨_, call_listD hc, ⟨fun {H0 S0 ad0 tmp ρ μ σ H Q xs ds} hl R k => by
  obtain ⟨S, ad, c, r⟩ := R.args hl
  unfold gListD at k
  split at k
  · rename_i n
    obtain ⟨v, rfl, rv⟩ := rpL1 r
    cases rv with
    | ref ha =>
      split at k
      · rename_i kvs hm
        obtain ⟨ws, g1, g2⟩ := (c.at_ n _ _ ha hm).dr
        refine ⟨_, ws, rfl, .inl g1, fun p hp => ?_⟩
        have e : (ws.map fun kv => kV kv.1) = (kvs.map (·.1)).map kV := by
          rw [← g2.keys, List.map_map]
          rfl
        rw [e]
        exact k _ _ (newLst c (rpL_keys _) hp)
      · exact k.elim
  · exact k.elim⟩⟩
/-! d.pop(k) -/
def rPop1 : V → List V → Hp → VK → Prop := fun x xs H Q => ∃ (a : Addr) (kvs : List (Key × V)) (k : Key) (v : V), x = .ref a ∧ xs = [kV k] ∧ H a = some (.dK kvs) ∧ valV kvs k = some v ∧ Q v (upd H a (.dK (dropK kvs k)))
theorem mt_pop1 : MtR X "dict.pop" rPop1 := fun pins s σ H x xs v us Q I rx rxs h => by
  obtain ⟨a, kvs, k, w, rfl, rfl, e, l, q⟩ := h
  cases rx
  obtain ⟨u, rfl, ry⟩ := vals1 rxs
  exact d_pop I e ry l (.inl rfl) fun w' s' I' rw' => ⟨w, _, I', rw', q⟩
@[simp] def gPop1 : MF := fun d ds μ => match d, ds with
  | .ref n, [e] => (match μ[n]?, kOf e with
    | some (.dK kvs), some k => (match valD kvs k with
      | some y => .val y (μ.set n (.dK (dropD kvs k)))
      | none => .fail)
    | _, _ => .fail)
  | _, _ => .fail
theorem mo_pop1 : MtO X W "dict.pop" gPop1 := ⟨_, mt_pop1, ⟨fun {H0 S0 ad0 tmp ρ μ σ H Q x d xs ds} hl R k => by
  obtain ⟨S, ad, c, rx, ra⟩ := R.margs hl
  unfold gPop1 at k
  split at k
  · rename_i n e
    obtain ⟨v, rfl, rv⟩ := rpL1 ra
    split at k
    · rename_i kvs ky hm hk
      split at k
      · rename_i y hy
        cases rx with
        | ref ha =>
          obtain ⟨ws, g1, g2⟩ := (c.at_ n _ _ ha hm).dr
          obtain ⟨u, g3, g4⟩ := g2.gets hy
          have ek := kOf_at rv hk
          subst ek
          exact ⟨_, ws, ky, u, rfl, rfl, g1, g3, k _ _ ⟨S, ad, (wrDK c ha (g2.drop ky)).push g4⟩⟩
      · exact k.elim
    · exact k.elim
  · exact k.elim⟩⟩
/-! xs.clear(), xs.extend(ys) -/
@[simp] def gClrL : MF := fun d ds μ => match d, ds with
  | .ref n, [] => (match μ[n]? with
    | some (.lst _) => .val .non (μ.set n (.lst []))
    | _ => .fail)
  | _, _ => .fail
theorem mo_clrL : MtO X W "list.clear" gClrL := ⟨_, mt_clear, ⟨fun {H0 S0 ad0 tmp ρ μ σ H Q x d xs ds} hl R k => by
  obtain ⟨S, ad, c, rx, ra⟩ := R.margs hl
  unfold gClrL at k
  split at k
  · rename_i n
    cases ra
    split at k
    · rename_i zs hm
      cases rx with
      | ref ha =>
        obtain ⟨vs, h1, h2⟩ := c.at_ n _ _ ha hm
        exact ⟨_, vs, rfl, rfl, h1, k _ _ ((wrLst (xs := zs) c ha .nil).flat flat_non)⟩
    · exact k.elim
  · exact k.elim⟩⟩
@[simp] def gExt : MF := fun d ds μ => match d, ds with
  | .ref n, [e] => (match μ[n]?, lsOf e μ with
    | some (.lst xs), some ys => if xs.length + ys.length ≤ 100000 then .val .non (μ.set n (.lst (xs ++ ys))) else .fail
    | _, _ => .fail)
  | _, _ => .fail
theorem mo_ext : MtO X W "list.extend" gExt := ⟨_, mt_extend, ⟨fun {H0 S0 ad0 tmp ρ μ σ H Q x d xs ds} hl R k => by
  obtain ⟨S, ad, c, rx, ra⟩ := R.margs hl
  unfold gExt at k
  split at k
  · rename_i n e
    obtain ⟨v, rfl, rv⟩ := rpL1 ra
    split at k
    · rename_i zs ys hm hy
      split at k
      · rename_i hz
        cases rx with
        | ref ha =>
          obtain ⟨vs, h1, h2⟩ := c.at_ n _ _ ha hm
          obtain ⟨b, us, rfl, g1, g2⟩ := lsOf_at c rv hy
          exact ⟨_, b, vs, us, rfl, rfl, h1, g1, sz_of (by rw [h2.length, g2.length]; exact hz), k _ _ ((wrLst (xs := zs) c ha (h2.append g2)).flat flat_non)⟩
      · exact k.elim
    · exact k.elim
  · exact k.elim⟩⟩
end
end Dn

/-! Dn38: walks of zip(xs, ys); xs[::s], s one or less one. -/
namespace Dn
open PySem PySem.Spec PyProof.Rows L2
noncomputable section
def forZ (p q : D) (g : GT) (b : SF) : Nat → Nat → Ro → Mu → Out
  | 0, _, _, _ => .fail
  | N + 1, i, ρ, μ => match lsOf p μ, lsOf q μ with
    | some xs, some ys => (match xs[i]?, ys[i]? with
      | some d, some e => (match g (.tup [d, e]) ρ μ with
        | none => .fail
        | some r => match b r.1 r.2 with
          | .nx ρ2 μ2 => forZ p q g b N (i + 1) ρ2 μ2
          | .ct ρ2 μ2 => forZ p q g b N (i + 1) ρ2 μ2
          | .bk ρ2 μ2 => .nx ρ2 μ2
          | .ret d μ2 => .ret d μ2
          | .exc x ρ2 μ2 => .exc x ρ2 μ2
          | .fail => .fail)
      | _, _ => .nx ρ μ)
    | _, _ => .fail
def sForZ (N : Nat) (f : AF) (g : GT) (b : SF) : SF := fun ρ μ => match f ρ μ with
  | .val [p, q] μ1 => forZ p q g b N 0 ρ μ1
  | .exc x μ1 => .exc x ρ μ1
  | _ => .fail
section
variable {K : PySem.W.Frag} {W : WX}
theorem simS_forZ {ta : TA} {t : TG} {u : TS} {f : AF} {g : GT} {b : SF} (N : Nat) (he : SimA K W ta f) (hg : SimG K t g) (hb : SimS K W u b) : SimS K W (tFor (iZip K ta) t u) (sForZ N f g b) := ⟨fun {H0 S0 ad0 tmp ρ μ σ H E} R k => by
  refine he.run R ?_
  unfold sForZ at k
  cases e1 : f ρ μ with
  | fail => rw [e1] at k; exact k.elim
  | exc x μ1 => rw [e1] at k; exact fun cls dd H r => k cls dd σ H r
  | val ds μ1 =>
    rw [e1] at k
    intro vs H1 hl R1
    match ds, hl, R1, k with
    | [], _, _, k => exact k.elim
    | [_], _, _, k => exact k.elim
    | _ :: _ :: _ :: _, _, _, k => exact k.elim
    | [p, q], hl, R1, k =>
      have k : PostS K W H0 S0 ad0 tmp E (forZ p q g b N 0 ρ μ1) := k
      obtain ⟨x, y, rfl⟩ : ∃ x y, vs = [x, y] := by
        match vs, hl with
        | [x, y], _ => exact ⟨x, y, rfl⟩
      have at2 : ∀ {ρ : Ro} {μ : Mu} {σ : L2.St} {H : Hp} {xs ys : List D}, Rel K H0 S0 ad0 ([(x, p), (y, q)] ++ tmp) ρ μ σ H → lsOf p μ = some xs → lsOf q μ = some ys → ∃ S ad a b us ws, Core K H0 S0 ad0 S ad ([(x, p), (y, q)] ++ tmp) ρ μ σ H ∧ x = .ref a ∧ y = .ref b ∧ H a = some (.lst us) ∧ H b = some (.lst ws) ∧ RpL K S ad us xs ∧ RpL K S ad ws ys := fun {ρ μ σ H xs ys} R h1 h2 => by
        obtain ⟨S, ad, c⟩ := R
        obtain ⟨a, us, ea, ha, ra⟩ := lsOf_at c c.hd h1
        obtain ⟨b, ws, eb, hb, rb⟩ := lsOf_at c c.pop.hd h2
        exact ⟨S, ad, a, b, us, ws, c, ea, eb, ha, hb, ra, rb⟩
      obtain ⟨a, c, us, ws, rfl, rfl, ha, hc⟩ : ∃ a b us ws, x = .ref a ∧ y = .ref b ∧ H1 a = some (.lst us) ∧ H1 b = some (.lst ws) := by
        cases N with
        | zero => exact k.elim
        | succ N =>
          unfold forZ at k
          split at k
          · rename_i xs ys h1 h2
            obtain ⟨S, ad, a, b, us, ws, c, ea, eb, ha, hb, _⟩ := at2 R1 h1 h2
            exact ⟨a, b, us, ws, ea, eb, ha, hb⟩
          · exact k.elim
      refine ⟨a, c, us, ws, rfl, .of ha, .of hc, fun i m σ H => ∃ ρ μ, Rel K H0 S0 ad0 ([(.ref a, p), (.ref c, q)] ++ tmp) ρ μ σ H ∧ PostS K W H0 S0 ad0 tmp E (forZ p q g b m i ρ μ), ⟨N, ρ, μ1, R1, k⟩, ?_⟩
      rintro i m σ H ⟨ρ, μ, R, k⟩
      cases m with
      | zero => exact k.elim
      | succ m =>
        unfold forZ at k
        split at k
        · rename_i xs ys h1 h2
          obtain ⟨S, ad, a', c', us, ws, cc, ea, ec, ha, hc, ra, rc⟩ := at2 R h1 h2
          cases ea
          cases ec
          split at k
          · rename_i d e hx hy
            obtain ⟨u1, g1, g2⟩ := ra.get hx
            obtain ⟨u2, g3, g4⟩ := rc.get hy
            refine .inr ⟨⟨us, ws, u1, u2, .of ha, .of hc, g1, g3⟩, fun σ' H' => ∃ ρ μ, Rel K H0 S0 ad0 ([(.ref a, p), (.ref c, q)] ++ tmp) ρ μ σ' H' ∧ PostS K W H0 S0 ad0 tmp E (forZ p q g b m (i + 1) ρ μ), fun σ' H' q => ⟨m, Nat.lt_succ_self m, q⟩, fun z H' yl => ?_⟩
            obtain ⟨T, v1, v2, rfl, hT, rfl, y1, y2⟩ := yl
            have e1 := y1 us (.of ha)
            rw [g1] at e1
            cases e1
            have e2 := y2 ws (.of hc)
            rw [g3] at e2
            cases e2
            have R2 := newTup cc (.cons g2 (.cons g4 .nil)) hT
            cases e2 : g (.tup [d, e]) ρ μ with
            | none => rw [e2] at k; exact k.elim
            | some r =>
              rw [e2] at k
              simp only at k
              refine hg.run R2 e2 fun σ2 H2 R2 => hb.run (E := { E with nx := fun σ' H' => ∃ ρ μ, Rel K H0 S0 ad0 ([(.ref a, p), (.ref c, q)] ++ tmp) ρ μ σ' H' ∧ PostS K W H0 S0 ad0 tmp E (forZ p q g b m (i + 1) ρ μ), ct := fun σ' H' => ∃ ρ μ, Rel K H0 S0 ad0 ([(.ref a, p), (.ref c, q)] ++ tmp) ρ μ σ' H' ∧ PostS K W H0 S0 ad0 tmp E (forZ p q g b m (i + 1) ρ μ), bk := E.nx }) R2 ?_
              cases e3 : b r.1 r.2 with
              | nx ρ2 μ2 => rw [e3] at k; exact fun σ' H' R' => ⟨ρ2, μ2, R', k⟩
              | ct ρ2 μ2 => rw [e3] at k; exact fun σ' H' R' => ⟨ρ2, μ2, R', k⟩
              | bk ρ2 μ2 => rw [e3] at k; exact PostS.tl (E := E) (o := .nx ρ2 μ2) k
              | ret d μ2 => rw [e3] at k; exact PostS.tl (E := E) (o := .ret d μ2) k
              | exc x ρ2 μ2 => rw [e3] at k; exact PostS.tl (E := E) (o := .exc x ρ2 μ2) k
              | fail => rw [e3] at k; exact k
          · rename_i hno
            have hn : xs.length ≤ i ∨ ys.length ≤ i := by
              cases h3 : xs[i]? with
              | none => exact .inl (List.getElem?_eq_none_iff.mp h3)
              | some d =>
                cases h4 : ys[i]? with
                | none => exact .inr (List.getElem?_eq_none_iff.mp h4)
                | some e => exact absurd h4 (hno d e h3)
            exact .inl ⟨⟨us, ws, .of ha, .of hc, by rw [ra.length, rc.length]; exact hn⟩, k σ H (R.sub fun p m => List.mem_append_right _ m)⟩
        · exact k.elim⟩
theorem ds_forZ {X : Cx} {W : WX} {e e2 : Expr} {elts : List Expr} {kk : Nat} {body : List Stmt} {fa : AF} {g : GT} {s : SF} {p tpos pos pos' : Pos} (N : Nat) (hp : PassesOwn (model X.prog X.w) X.A X.env X.xe) (hc : X.calm = true) (hg0 : Gl X "zip") (hm0 : X.mg "zip" = none) (ha : DA X W [e, e2] fa)
    (hg : DG X (.Tuple elts kk tpos) g) (hb : DSs X W body s) (hs : ∀ x, foldedSetIterable (.Call (.Name "zip" p) [e, e2] [] pos) X.env x = pure x := by intro _; rfl)
    (h1 : starEach [e, e2] X.env = (false, eval e X.env) :: starEach [e2] X.env := by rfl) (h2 : (backTo pos (starEach [e2] X.env)).any (·.1) = false := by rfl) :
    DS X W (.For (.Tuple elts kk tpos) (.Call (.Name "zip" p) [e, e2] [] pos) body [] pos') (sForZ N fa g s) :=
  let ⟨_, p0, q0⟩ := ha; let ⟨_, p1, q1⟩ := hg; let ⟨_, p2, q2⟩ := hb; ⟨_, ps_for hp hc (pi_zip hg0 hm0 p0 h1 h2) p1 p2 hs, simS_forZ N q0 q1 q2⟩
end
theorem forZ_go {p q : D} {g : GT} {b : SF} {B : Ro → Mu → Prop} {R : D → Mu → Prop} {xs ys : List D} (I : Nat → Ro → Mu → Prop) (hp : ∀ i ρ μ, I i ρ μ → lsOf p μ = some xs) (hq : ∀ i ρ μ, I i ρ μ → lsOf q μ = some ys) (hl : xs.length = ys.length)
    (hs : ∀ (i : Nat) (d e : D) (ρ : Ro) (μ : Mu), xs[i]? = some d → ys[i]? = some e → I i ρ μ → ∃ ρ' μ', turn g b (.tup [d, e]) ρ μ = .nx ρ' μ' ∧ I (i + 1) ρ' μ') : ∀ (m i : Nat) (ρ : Ro) (μ : Mu), xs.length < m + i → i ≤ xs.length → I i ρ μ → ∃ ρ' μ', forZ p q g b m i ρ μ = .nx ρ' μ' ∧ I xs.length ρ' μ'
  | 0, i, ρ, μ, h1, h2, _ => absurd h1 (by omega)
  | m + 1, i, ρ, μ, h1, h2, h => by
    unfold forZ
    rw [hp i ρ μ h, hq i ρ μ h]
    simp only
    by_cases hi : i < xs.length
    · have ex := List.getElem?_eq_getElem hi
      have ey : ys[i]? = some (ys[i]'(by omega)) := List.getElem?_eq_getElem (by omega)
      obtain ⟨ρ', μ', t, h'⟩ := hs i _ _ ρ μ ex ey h
      rw [ex, ey]
      simp only
      unfold turn at t
      cases e2 : g (.tup [xs[i], ys[i]'(by omega)]) ρ μ with
      | none => rw [e2] at t; cases t
      | some r =>
        rw [e2] at t
        simp only at t ⊢
        rw [t]
        simp only
        exact forZ_go (B := B) (R := R) I hp hq hl hs m (i + 1) ρ' μ' (by omega) (by omega) h'
    · have e : i = xs.length := by omega
      have ex : xs[i]? = none := List.getElem?_eq_none_iff.mpr (by omega)
      rw [ex]
      rw [e] at h
      exact ⟨ρ, μ, rfl, h⟩
end
/-! xs[::s] -/
theorem pick_all (items : Array Value) : slicePick items none none (some 1) = items := by
  unfold slicePick
  rw [show sliceBounds none none (some 1) items.size = (0, (items.size : Int), 1) from by simp [sliceBounds]]
  show ((sliceRange 0 (items.size : Int) 1).filterMap (items[·]?)).toArray = items
  have h : sliceRange 0 (items.size : Int) 1 = List.range items.size := by
    unfold sliceRange
    by_cases q : 0 < items.size
    · simp [q]
    · have : items.size = 0 := by omega
      simp [this]
  rw [h, PySem.W.krv_all]
section
variable {X : Cx} {W : WX} {e st : Expr} {te ts : TE} {fe fs : EF} {pos p3 : Pos}
def tStepL (K : PySem.W.Frag) (te ts : TE) : TE := fun σ H Q => te σ H fun x H1 => tPart ts σ H1 fun o H2 => ∃ a xs, x = .ref a ∧ SqL K H2 a xs ∧ ((o = some (-1) ∧ ∀ p, H2 p = none → Q (.ref p) (upd H2 p (.lst xs.reverse))) ∨ (o = some 1 ∧ ∀ p, H2 p = none → Q (.ref p) (upd H2 p (.lst xs))))
theorem pe_stepL (he : PE X e te) (hs : PE X st ts) : PE X (.Subscript e (.Slice none none (some st) p3) pos) (tStepL X.K te ts) := by
  refine ⟨fun pins s σ H Q I h => ?_⟩
  refine Subscript_ (thn (he.run pins s σ H _ I h) fun v s1 ⟨x, H1, I1, r1, q1⟩ => ?_)
  refine wpAny_Slice (thn (po_none.run pins s1 σ H1 (fun o G => o = none ∧ G = H1) I1 ⟨rfl, rfl⟩) fun vl s2 ⟨o2, G2, I2, pl, el, e2⟩ => ?_)
  subst el e2
  refine thn (po_none.run pins s2 σ G2 (fun o G => o = none ∧ G = G2) I2 ⟨rfl, rfl⟩) fun vu s3 ⟨o3, G3, I3, pu, eu, e3⟩ => ?_
  subst eu e3
  refine thn ((po_some hs).run pins s3 σ G3 _ I3 q1) fun vs s4 ⟨o4, G4, I4, ps, a, xs, ex, hx, hq⟩ => ?_
  subst ex
  obtain rfl : v = Value.ref a := r1
  have I5 : Inv X pins σ G4 { s4 with heap := s4.heap.push { cls := .type "slice", data := .fields #[vl, vu, vs] } } := I4.kept (t' := s4.toks) fun b ob q => Heap.get?_push_of_some _ q
  obtain ⟨its, r, ht, hz⟩ := I5.list hx
  have hlen := r.length
  show wpAny (model X.prog X.w) X.A (subscriptTail e (.Slice none none (some st) p3) (.ref a) (.ref s4.heap.objs.size)) (EP X pins σ Q) X.xe { s4 with heap := s4.heap.push { cls := .type "slice", data := .fields #[vl, vu, vs] } }
  refine tail_any (ops := [.ref a, .ref s4.heap.objs.size]) ht.isList.typeIs (PySem.slot_list_getitem.lookup) ?_ (by with_unfolding_all rfl)
  have sz5 : its.toArray.size ≤ sizeLine := by rw [List.size_toArray]; omega
  rcases hq with ⟨ho, hq⟩ | ⟨ho, hq⟩
  · subst ho
    refine wpAny_getItem_list_slice ht.isList (Heap.IsSliceOf.new _ vl vu vs) pl pu ps (by decide) ?_ sz5
    rw [PySem.W.krv_pick]
    exact ⟨.ref _, _, I5.laid (t' := s4.toks) (o := .lst xs.reverse) (fun b ob q => Heap.get?_push_of_some _ q) (Nat.le_refl _) ⟨by rw [List.length_reverse]; exact hz, _, 0, r.reverse, Heap.get?_push_size _ rfl⟩, rfl, hq _ (I5.hok.fresh (Nat.le_refl _))⟩
  · subst ho
    refine wpAny_getItem_list_slice ht.isList (Heap.IsSliceOf.new _ vl vu vs) pl pu ps (by decide) ?_ sz5
    rw [pick_all]
    exact ⟨.ref _, _, I5.laid (t' := s4.toks) (o := .lst xs) (fun b ob q => Heap.get?_push_of_some _ q) (Nat.le_refl _) ⟨hz, _, 0, r, Heap.get?_push_size _ rfl⟩, rfl, hq _ (I5.hok.fresh (Nat.le_refl _))⟩
@[simp] def eStepL (fe fs : EF) : EF := fun ρ μ => (fe ρ μ).bind fun d μ1 => (fs ρ μ1).bind fun y μ2 => match lsOf d μ2, y with
  | some xs, .int i => if i = -1 then .val (.lst xs.reverse) μ2 else if i = 1 then .val (.lst xs) μ2 else .fail
  | _, _ => .fail
theorem de_stepL (he : DE X W e fe) (hs : DE X W st fs) : DE X W (.Subscript e (.Slice none none (some st) p3) pos) (eStepL fe fs) := by
  obtain ⟨te, p1, q1⟩ := he
  obtain ⟨ts, p2, q2⟩ := hs
  refine ⟨_, pe_stepL p1 p2, ⟨fun {H0 S0 ad0 tmp ρ μ σ H Q} R k => ?_⟩⟩
  refine q1.run R ?_
  unfold eStepL at k
  cases e1 : fe ρ μ with
  | fail => rw [e1] at k; exact k.elim
  | exc z μ1 => rw [e1] at k; exact k
  | val d μ1 =>
    rw [e1] at k
    simp only [bind_val] at k
    intro v H1 R1
    refine q2.run R1 ?_
    cases e2 : fs ρ μ1 with
    | fail => rw [e2] at k; exact k.elim
    | exc z μ2 => rw [e2] at k; exact fun cls dd H r => k cls dd H r.pop
    | val y μ2 =>
      rw [e2] at k
      simp only [bind_val] at k
      intro u H2 R2
      obtain ⟨S, ad, c, rx, ry⟩ := R2.two
      split at k
      · rename_i xs i hs
        cases ry
        obtain ⟨a, vs, rfl, q, rr⟩ := lsOf_at c rx hs
        refine ⟨i, rfl, a, vs, rfl, .of q, ?_⟩
        split at k
        · rename_i hi
          subst hi
          exact .inl ⟨rfl, fun p hp => k _ _ (newLst c rr.reverse hp)⟩
        · split at k
          · rename_i hi
            subst hi
            exact .inr ⟨rfl, fun p hp => k _ _ (newLst c rr hp)⟩
          · exact k.elim
      · exact k.elim
end
end Dn

/-! Dn39: comprehensions over dicts; walks of enumerate(..), of a dict that is walked already; sorted of rows, min with a default, dict(pairs), len(set(..)), tuples in lists. -/
namespace Dn
open PySem PySem.Spec PyProof.Rows L2
/-! ### comprehensions over a dict: its keys or its values -/
def itD (vals : Bool) (kvs : List (Key × D)) : List D := kvs.map fun p => if vals = true then p.2 else kD p.1
open Classical in
noncomputable def compK (n : Nat) (y : Nd) (g : GT) (tt : TF) (te : EF) (ρ : Ro) : List D → Mu → List D → Res (List D)
  | [], μ, acc => if μ[n]? = some y then .val acc μ else .fail
  | d :: ds, μ, acc => if μ[n]? = some y then (match g d ρ μ with
    | none => .fail
    | some p => match tt p.1 p.2 with
      | .val true μ3 => (match te p.1 μ3 with
        | .val z μ4 => compK n y g tt te ρ ds μ4 (acc ++ [z])
        | _ => .fail)
      | .val false μ3 => compK n y g tt te ρ ds μ3 acc
      | _ => .fail) else .fail
noncomputable def runC (vals : Bool) (fin : List D → Mu → Res D) (f : EF) (g : GT) (tt : TF) (te : EF) (vs : List Nat) (n : Nat) (x : Nd) (ρ : Ro) (μ : Mu) (h : Gh) : Res D := match x with
  | .dK kvs => (match f ρ (μ.set n (.lkK h.o h.ws kvs)) with
    | .val (.ref m) μ2 => if m = n ∧ kvs.length ≤ 50000 then (match compK n (.lkK h.o h.ws kvs) g tt te (wipeR ρ vs) (itD vals kvs) μ2 [] with
      | .val xs μ3 => fin xs (μ3.set n x)
      | _ => .fail) else .fail
    | _ => .fail)
  | _ => .fail
open Classical in
noncomputable def eLcK (vals : Bool) (fin : List D → Mu → Res D) (f : EF) (g : GT) (tt : TF) (te : EF) (vs : List Nat) : EF := fun ρ μ => match f ρ μ with
  | .val (.ref n) _ => (match μ[n]? with
    | some x => if ∀ h, runC vals fin f g tt te vs n x ρ μ h = runC vals fin f g tt te vs n x ρ μ gh0 then runC vals fin f g tt te vs n x ρ μ gh0 else .fail
    | none => .fail)
  | _ => .fail
theorem eLcK_eq {vals : Bool} {fin : List D → Mu → Res D} {f : EF} {g : GT} {tt : TF} {te : EF} {vs : List Nat} {n : Nat} {x : Nd} {ρ : Ro} {μ μ1 : Mu} {o : Res D} (hf : f ρ μ = .val (.ref n) μ1) (hx : μ[n]? = some x) (h : ∀ h, runC vals fin f g tt te vs n x ρ μ h = o) : eLcK vals fin f g tt te vs ρ μ = o := by
  unfold eLcK
  rw [hf]
  simp only [hx]
  rw [if_pos fun z => (h z).trans (h gh0).symm, h gh0]
section
variable {K : PySem.W.Frag} {W : WX} {H0 S0 : Hp} {ad0 : Ad} {S : Hp} {ad : Ad} {tmp : List (V × D)} {ρ : Ro} {μ : Mu} {σ : L2.St} {H Hl : Hp}
theorem jk_valsK {n : Nat} {a : Addr} {o : Obj} {ws : List (Key × V)} {kvs : List (Key × D)} (ha : ad[n]? = some a) : JK K Hl S ad (Itd a o ws) n (.lkK o ws kvs) (itD true kvs) := fun {tmp ρ μ σ H} R hy i => by
  obtain ⟨S', ad', c⟩ := R
  obtain ⟨h1, h2, h3⟩ := c.at_ n a _ (c.adp n a ha) hy
  have r := DR.of h2 h3
  refine ⟨fun d hd => ?_, fun hi => ⟨h1, by rw [r.length]; simpa [itD] using hi⟩⟩
  unfold itD at hd
  rw [List.getElem?_map] at hd
  obtain ⟨p, hp, rfl⟩ := Option.map_eq_some_iff.mp hd
  refine ⟨⟨h1, by rw [r.length]; exact (List.getElem?_eq_some_iff.mp hp).1⟩, ?_⟩
  rintro x H' ⟨rfl, k, hk⟩
  obtain ⟨d', g1, g2⟩ := r.get hk
  rw [hp] at g1
  cases g1
  exact ⟨S', ad', c.push g2⟩
theorem jk_keysK2 {n : Nat} {a : Addr} {o : Obj} {ws : List (Key × V)} {kvs : List (Key × D)} (ha : ad[n]? = some a) : JK K Hl S ad (Itk a o ws) n (.lkK o ws kvs) (itD false kvs) := by
  have e : itD false kvs = kvs.map fun p => kD p.1 := by simp [itD]
  rw [e]
  exact @jk_keysK K S ad Hl n a o ws kvs ha
theorem compK_run {t : TG} {g : GT} {tt : TT} {ft : TF} {te : TE} {fe : EF} {vs : List Nat} {J : It} {n : Nat} {a : Addr} {y : Nd} {ds : List D} {Q : VK} (hn : ad[n]? = some a) (jk : ∀ {Hl S : Hp} {ad : Ad}, ad[n]? = some a → JK K Hl S ad J n y ds) (hg : SimW K vs t g) (ht : SimT K W0 tt ft) (he : SimE K W0 te fe)
    (c0 : Core K Hl S0 ad0 S ad tmp ρ μ σ H) (hz : ds.length ≤ 50000)
    (k : match compK n y g ft fe (wipeR ρ vs) ds μ [] with
      | .val xs μ2 => ∀ D vsA S ad H, Core K Hl S0 ad0 S ad tmp ρ μ2 σ H → μ2[n]? = some y → H D = some (.lst vsA) → RpL K S ad vsA xs → D ∉ ad → S D = none → Hl D = none → Q (.ref D) H
      | _ => False) : ∀ D, H D = none → ∃ W : Nat → Nat → Hp → Prop, (∃ m, W 0 m (upd H D (.lst []))) ∧ ∀ i m H, W i m H →
  (J.stop i H ∧ Q (.ref D) H) ∨ (J.go i H ∧ ∃ Nx : Hp → Prop, (∀ H', Nx H' → ∃ m', m' < m ∧ W (i + 1) m' H') ∧ ∀ x H', J.yld i H x H' → t x (wipe σ vs) H' fun σ2 H2 => wipe σ2 vs = wipe σ vs ∧ tt σ2 H2 fun b H3 =>
    if b = true then te σ2 H3 fun y H4 => ∃ acc, H4 D = some (.lst acc) ∧ acc.length < sizeLine ∧ Nx (upd H4 D (.lst (acc ++ [y]))) else Nx H3) := by
  intro D hD
  obtain ⟨f1, f2, f3⟩ := c0.fresh hD
  let P : Res (List Dn.D) → Prop := fun ω => match ω with
      | .val xs μ2 => ∀ D vsA S ad H, Core K Hl S0 ad0 S ad tmp ρ μ2 σ H → μ2[n]? = some y → H D = some (.lst vsA) → RpL K S ad vsA xs → D ∉ ad → S D = none → Hl D = none → Q (.ref D) H
      | _ => False
  have k : P (compK n y g ft fe (wipeR ρ vs) ds μ []) := k
  refine ⟨fun i m H => m = ds.length - i ∧ i ≤ ds.length ∧ ∃ (S : Hp) (ad : Ad) (μ : Mu) (vsA : List V) (acc : List Dn.D), Core K Hl S0 ad0 S ad tmp ρ μ σ H ∧ ad[n]? = some a ∧ H D = some (.lst vsA) ∧ RpL K S ad vsA acc ∧ D ∉ ad ∧ S D = none ∧ acc.length ≤ i ∧
      P (compK n y g ft fe (wipeR ρ vs) (ds.drop i) μ acc),
    ⟨ds.length, by simp, Nat.zero_le _, S, ad, μ, [], [], c0.free f2 f1 f3, hn, upd_same, .nil, f2, f1, Nat.le_refl _, k⟩, ?_⟩
  rintro i m H ⟨rfl, hi, S, ad, μ, vsA, acc, c, hn, hDa, ra, na, ns, hacc, k⟩
  have here := (c.here).wipe vs
  by_cases hlt : i < ds.length
  · rw [List.drop_eq_getElem_cons hlt] at k
    unfold compK at k
    by_cases hy : μ[n]? = some y
    · rw [if_pos hy] at k
      obtain ⟨jw1, _⟩ := jk hn ⟨S, ad, here⟩ hy i
      obtain ⟨go, yl⟩ := jw1 ds[i] (List.getElem?_eq_getElem hlt)
      refine .inr ⟨go, fun H' => ∃ (S : Hp) (ad : Ad) (μ : Mu) (vsA : List V) (acc : List Dn.D), Core K Hl S0 ad0 S ad tmp ρ μ σ H' ∧ ad[n]? = some a ∧ H' D = some (.lst vsA) ∧ RpL K S ad vsA acc ∧ D ∉ ad ∧ S D = none ∧ acc.length ≤ i + 1 ∧
        P (compK n y g ft fe (wipeR ρ vs) (ds.drop (i + 1)) μ acc), fun H' ⟨S', ad', μ', vs', acc', q1, q0, q2, q3, q4, q5, q6, q7⟩ => ⟨ds.length - (i + 1), by omega, rfl, hlt, S', ad', μ', vs', acc', q1, q0, q2, q3, q4, q5, q6, q7⟩, fun x H' yy => ?_⟩
      have R2 := yl x H' yy
      -- what stood at D stands behind all that a turn does
      have stays : ∀ {S4 : Hp} {ad4 : Ad} {tmp4 : List (V × Dn.D)} {ρ4 : Ro} {μ4 : Mu} {σ4 : L2.St} {H4 : Hp}, Core K H S ad S4 ad4 tmp4 ρ4 μ4 σ4 H4 → H4 D = some (.lst vsA) ∧ D ∉ ad4 ∧ S4 D = none := fun {S4 ad4 tmp4 ρ4 μ4 σ4 H4} c4 => by
        have n4 : D ∉ ad4 := fun m => by
          obtain ⟨more, e, q⟩ := c4.a0
          rw [e] at m
          rcases List.mem_append.mp m with m | m
          · exact na m
          · rw [q D m] at hDa; cases hDa
        refine ⟨c4.kp D _ hDa n4, n4, ?_⟩
        cases e : S4 D with
        | none => rfl
        | some o =>
          rcases c4.sn D o e with z | z | ⟨xs, z⟩
          · rw [ns] at z; cases z
          · rw [hDa] at z; cases z
          · rw [hDa] at z; cases z
      cases e2 : g ds[i] (wipeR ρ vs) μ with
      | none => rw [e2] at k; exact k.elim
      | some p =>
        rw [e2] at k
        simp only at k
        refine hg.run R2 e2 fun σ2 H2 R2 w2 => ⟨w2.trans (wipe_wipe vs), ht.run R2 ?_⟩
        cases e3 : ft p.1 p.2 with
        | fail => rw [e3] at k; exact k.elim
        | exc x μ1 => rw [e3] at k; exact k.elim
        | val b μ3 =>
          rw [e3] at k
          intro H3 R3
          cases b with
          | false =>
            refine iteF ?_
            obtain ⟨S3, ad3, c3⟩ := R3
            obtain ⟨d1, d2, d3⟩ := stays c3
            exact ⟨S3, ad3, μ3, vsA, acc, (c.keep c3).tmps fun q m => (c.keep c3).tm q (List.mem_append_right _ m), c3.adp n a hn, d1, ra.mono c3.s0 c3.adp, d2, d3, by omega, k⟩
          | true =>
            simp only at k
            refine iteT (he.run R3 ?_)
            cases e4 : fe p.1 μ3 with
            | fail => rw [e4] at k; exact k.elim
            | exc x μ1 => rw [e4] at k; exact k.elim
            | val z μ4 =>
              rw [e4] at k
              intro v H4 R4
              obtain ⟨S4, ad4, c4⟩ := R4
              obtain ⟨d1, d2, d3⟩ := stays c4
              have ra4 := ra.mono c4.s0 c4.adp
              refine ⟨vsA, d1, sz_lt (by rw [ra.length]; omega), S4, ad4, μ4, vsA ++ [v], acc ++ [z], ((c.keep c4).tmps fun q m => (c.keep c4).tm q (List.mem_append_right _ m)).free d2 d3 f3, c4.adp n a hn, upd_same, ra4.append (.cons c4.hd .nil), d2, d3, by rw [List.length_append]; show acc.length + 1 ≤ i + 1; omega, k⟩
    · rw [if_neg hy] at k; exact k.elim
  · have e : i = ds.length := by omega
    subst e
    rw [List.drop_length] at k
    unfold compK at k
    split at k
    · rename_i hy
      exact .inl ⟨(jk hn ⟨S, ad, here⟩ hy _).2 (Nat.le_refl _), k D vsA S ad H c hy hDa ra na ns f3⟩
    · exact k.elim
/-- what is asked of the dict's walk -/
def iD (vals : Bool) (td : TE) : TI := if vals = true then iVals td else iKeys td
theorem simE_lcK {fin : List D → Mu → Res D} (vals : Bool) (hf : FinOk K W fin) {td : TE} {f : EF} {t : TG} {g : GT} {tt : TT} {ft : TF} {te : TE} {fe : EF} {vs : List Nat} (hd : SimE K W0 td f) (hg : SimW K vs t g) (ht : SimT K W0 tt ft) (he : SimE K W0 te fe) :
    SimE K W (tLockE (tLc (iD vals td) t tt te vs)) (eLcK vals fin f g ft fe vs) := ⟨fun {H0 S0 ad0 tmp ρ μ σ H Q} R k => by
  unfold eLcK at k
  split at k
  · rename_i n μ1 ef
    split at k
    · rename_i x hx
      split at k
      · rename_i hall
        obtain ⟨S, ad, c⟩ := R
        have hl : n < ad.length := by rw [c.al]; exact (List.getElem?_eq_some_iff.mp hx).1
        have ha : ad[n]? = some ad[n] := List.getElem?_eq_getElem hl
        cases x with
        | dK kvs =>
          obtain ⟨ws, h1, h2⟩ := (c.at_ n _ _ ha hx).dr
          refine ⟨ad[n], .dK ws, h1, True.intro, fun od => ?_⟩
          have k2 := k
          rw [← hall ⟨od, ws, []⟩] at k2
          unfold runC at k2
          simp only at k2
          have cl := c.wr ha (o := .frz od (.dK ws)) (x := .lkK od ws kvs) ⟨upd_same, h2.keys, h2.vals⟩
          have R1 : Rel K (upd H ad[n] (.frz od (.dK ws))) S ad tmp ρ (μ.set n (.lkK od ws kvs)) σ (upd H ad[n] (.frz od (.dK ws))) := ⟨S, ad, cl.here⟩
          have main : ∀ (v : V) (H1 : Hp) (μ2 : Mu) (J : It), (∀ {Hl S : Hp} {ad' : Ad}, ad'[n]? = some ad[n] → JK K Hl S ad' J n (.lkK od ws kvs) (itD vals kvs)) → Rel K (upd H ad[n] (.frz od (.dK ws))) S ad ((v, .ref n) :: tmp) ρ μ2 σ H1 →
              PostE K W H0 S0 ad0 tmp ρ σ Q (if n = n ∧ kvs.length ≤ 50000 then (match compK n (.lkK od ws kvs) g ft fe (wipeR ρ vs) (itD vals kvs) μ2 [] with
                | .val xs μ3 => fin xs (μ3.set n (.dK kvs))
                | _ => .fail) else .fail) → v = .ref ad[n] ∧ (μ2[n]? = some (.lkK od ws kvs) → H1 ad[n] = some (.frz od (.dK ws))) ∧ μ2[n]? = some (.lkK od ws kvs) ∧ ∀ Dd, H1 Dd = none → ∃ Ww : Nat → Nat → Hp → Prop, (∃ m, Ww 0 m (upd H1 Dd (.lst []))) ∧ ∀ i m Hh, Ww i m Hh →
                (J.stop i Hh ∧ (Hh ad[n] = some (.frz od (.dK ws)) ∧ Q (.ref Dd) (upd Hh ad[n] (.dK ws)))) ∨ (J.go i Hh ∧ ∃ Nx : Hp → Prop, (∀ H', Nx H' → ∃ m', m' < m ∧ Ww (i + 1) m' H') ∧ ∀ x H', J.yld i Hh x H' → t x (wipe σ vs) H' fun σ2 H2 => wipe σ2 vs = wipe σ vs ∧ tt σ2 H2 fun b H3 =>
                  if b = true then te σ2 H3 fun y H4 => ∃ acc, H4 Dd = some (.lst acc) ∧ acc.length < sizeLine ∧ Nx (upd H4 Dd (.lst (acc ++ [y]))) else Nx H3) := fun v H1 μ2 J jk R2 k2 => by
            obtain ⟨S2, ad2, c2⟩ := R2
            have ha2 := c2.adp n _ ha
            split at k2
            · rename_i hz
              have hy : μ2[n]? = some (.lkK od ws kvs) := by
                by_cases q : μ2[n]? = some (.lkK od ws kvs)
                · exact q
                · exfalso
                  have z : compK n (.lkK od ws kvs) g ft fe (wipeR ρ vs) (itD vals kvs) μ2 [] = .fail := by
                    cases itD vals kvs <;> simp only [compK, if_neg q]
                  rw [z] at k2
                  exact k2
              have rv := c2.hd
              have ev : v = .ref ad[n] := by
                cases rv with
                | ref hv =>
                  rw [ha2] at hv
                  cases hv
                  rfl
              refine ⟨ev, fun q => (c2.at_ n _ _ ha2 q).1, hy, ?_⟩
              refine compK_run (K := K) (Q := fun u Hh => Hh ad[n] = some (.frz od (.dK ws)) ∧ Q u (upd Hh ad[n] (.dK ws))) ha2 jk hg ht he c2.pop (by unfold itD; rw [List.length_map]; exact hz.2) ?_
              cases e : compK n (.lkK od ws kvs) g ft fe (wipeR ρ vs) (itD vals kvs) μ2 [] with
              | fail => rw [e] at k2; exact k2.elim
              | exc z μ3 => rw [e] at k2; exact k2.elim
              | val xs μ3 =>
                rw [e] at k2
                intro Dd vsA S3 ad3 H3 c3 hy3 hD3 ra na ns hl3
                obtain ⟨q1, q2, q3⟩ := c3.at_ n _ _ (c3.adp n _ ha) hy3
                have ne : Dd ≠ ad[n] := fun z => na (by rw [z]; exact List.mem_of_getElem? (c3.adp n _ ha))
                have c4 := (cl.trans c3).wr (c3.adp n _ ha) (o := .dK ws) (x := .dK kvs) ⟨ws, upd_same, q2, q3⟩
                refine ⟨q1, hf c4 (by rw [upd_ne ne]; exact hD3) ra na ns ?_ k2⟩
                rw [upd_ne ne] at hl3
                obtain ⟨_, _, z⟩ := c.fresh hl3
                exact z
            · exact k2.elim
          cases vals with
          | true =>
            refine hd.run R1 ?_
            cases e1 : f ρ (μ.set n (.lkK od ws kvs)) with
            | fail => rw [e1] at k2; exact k2.elim
            | exc z μ2 => rw [e1] at k2; exact k2.elim
            | val dd μ2 =>
              rw [e1] at k2
              cases dd <;> first | exact k2.elim | skip
              rename_i m
              by_cases hm : m = n
              · subst hm
                intro v H1 R2
                obtain ⟨ev, g1, g2, g3⟩ := main v H1 μ2 (Itd ad[m] od ws) (fun h => jk_valsK h) R2 (by simpa using k2)
                exact ⟨_, od, ws, ev, g1 g2, g3⟩
              · simp only [hm, false_and, if_false] at k2; exact k2.elim
          | false =>
            refine hd.run R1 ?_
            cases e1 : f ρ (μ.set n (.lkK od ws kvs)) with
            | fail => rw [e1] at k2; exact k2.elim
            | exc z μ2 => rw [e1] at k2; exact k2.elim
            | val dd μ2 =>
              rw [e1] at k2
              cases dd <;> first | exact k2.elim | skip
              rename_i m
              by_cases hm : m = n
              · subst hm
                intro v H1 R2
                obtain ⟨ev, g1, g2, g3⟩ := main v H1 μ2 (Itk ad[m] od ws) (fun h => jk_keysK2 h) R2 (by simpa using k2)
                exact ⟨_, od, ev, .inl ⟨ws, g1 g2, g3⟩⟩
              · simp only [hm, false_and, if_false] at k2; exact k2.elim
        | _ => exact k.elim
      · exact k.elim
    · exact k.elim
  · exact k.elim⟩
theorem tAsg_lock {te : TE} {i : Nat} {E : Ends} (h : tLockE te σ H fun v H' => E.nx (σ.set i (some v)) H') : tLock (tAsg te (gName i)) E σ H := by
  obtain ⟨d, u, h1, h2, h3⟩ := h
  exact ⟨d, u, h1, h2, h3⟩
theorem simS_lock {te : TE} {fe : EF} {i : Nat} (h : SimE K W (tLockE te) fe) : SimS K W (tLock (tAsg te (gName i))) (sAsg i fe) := ⟨fun {H0 S0 ad0 tmp ρ μ σ H E} R k => by
  exact tAsg_lock ((simS_asg h (simG_n i)).run R k)⟩
end
section
variable {X : Cx} {W : WX} {elt tg iter e : Expr} {ifs : List Expr} {scope : Scope} {own : List (Str × Nat)} {pos spos py apos cpos : Pos} {f : EF} {g : GT} {ft : TF} {fe : EF} {fin : List D → Mu → Res D}
/-- what a walk of a dict in a comprehension asks -/
def DK (X : Cx) (tg iter : Expr) (vals : Bool) (f : EF) : Prop := ∃ td, PI X tg iter (iD vals td) ∧ SimE X.K W0 td f
theorem dk_keys (h : DE X W0 e f) : DK X tg e false f := let ⟨t, p, q⟩ := h; ⟨t, pi_keys p, q⟩
theorem dk_vals (h : DE X W0 e f) (hbase : attributeBase e "values" X.env (eval e X.env) = eval e X.env := by rfl) (hline : (apos.endLine == cpos.line) = true := by rfl) : DK X tg (.Call (.Attribute e "values" apos) [] [] cpos) true f := let ⟨t, p, q⟩ := h; ⟨t, pi_values p hbase hline, q⟩
theorem de_lcK (vals : Bool) (hfin : FinOk X.K W fin) (hc : X.calm = true) (hN : X.N.Nodup) (hi : DK X tg iter vals f) (ok : BlkOk X.N X.env.scope scope own)
    (hg : ∀ (s : Shared) (H : Hp) (C : Addr) (cl : List (Str × Addr)) (fp : List Addr), DW1 (X.blk s H scope (compEnvC scope cl C X.env) fp) (own.map (·.2)) tg g) (ht : ∀ (s : Shared) (H : Hp) (C : Addr) (cl : List (Str × Addr)) (fp : List Addr), DTs (X.blk s H scope (compEnvC scope cl C X.env) fp) W0 ifs ft)
    (he : ∀ (s : Shared) (H : Hp) (C : Addr) (cl : List (Str × Addr)) (fp : List Addr), DE (X.blk s H scope (compEnvC scope cl C X.env) fp) W0 elt fe) (hs : ∀ x, foldedSetIterable iter X.env x = pure x := by intro _; rfl) :
    DE X W (.ListComp elt [⟨tg, iter, ifs, 0⟩] scope pos) (eLcK vals fin f g ft fe (own.map (·.2))) := by
  obtain ⟨_, p1, q1⟩ := hi
  exact ⟨_, pe_lock (pe_lc hc hN p1 ok (fun s H C cl fp => (hg s H C cl fp).can) (fun s H C cl fp => (ht s H C cl fp).can) (fun s H C cl fp => (he s H C cl fp).can) hs), simE_lcK vals hfin q1 simW_can simT_can simE_can⟩
theorem ds_lcK (vals : Bool) (i : Nat) {y : Str} (hfin : FinOk X.K W fin) (hc : X.calm = true) (hN : X.N.Nodup) (hi : DK X tg iter vals f) (ok : BlkOk X.N X.env.scope scope own)
    (hg : ∀ (s : Shared) (H : Hp) (C : Addr) (cl : List (Str × Addr)) (fp : List Addr), DW1 (X.blk s H scope (compEnvC scope cl C X.env) fp) (own.map (·.2)) tg g) (ht : ∀ (s : Shared) (H : Hp) (C : Addr) (cl : List (Str × Addr)) (fp : List Addr), DTs (X.blk s H scope (compEnvC scope cl C X.env) fp) W0 ifs ft)
    (he : ∀ (s : Shared) (H : Hp) (C : Addr) (cl : List (Str × Addr)) (fp : List Addr), DE (X.blk s H scope (compEnvC scope cl C X.env) fp) W0 elt fe)
    (hy : X.N[i]? = some y := by rfl) (hyl : X.env.scope.names.lookup y = some .local := by rfl)
    (hsw : swapsWith (.ListComp elt [⟨tg, iter, ifs, 0⟩] scope pos) (some (.Name y py)) spos.line X.env = pure true := by exact sw_true rfl rfl rfl (by decide +kernel)) (hs : ∀ x, foldedSetIterable iter X.env x = pure x := by intro _; rfl) :
    DS X W (.Assign [.Name y py] (.ListComp elt [⟨tg, iter, ifs, 0⟩] scope pos) spos) (sAsg i (eLcK vals fin f g ft fe (own.map (·.2)))) := by
  obtain ⟨_, p1, q1⟩ := hi
  exact ⟨_, ps_lock (ps_setLc hc hN hy hyl hsw p1 ok (fun s H C cl fp => (hg s H C cl fp).can) (fun s H C cl fp => (ht s H C cl fp).can) (fun s H C cl fp => (he s H C cl fp).can) hs), simS_lock (simE_lcK vals hfin q1 simW_can simT_can simE_can)⟩
end
end Dn

/-! Dn40: walks of enumerate(..), of a dict that is walked already; sorted of rows, min with a default, dict(pairs), len(set(..)), tuples in lists. -/
namespace Dn
open PySem PySem.Spec PyProof.Rows L2
/-! ### for .. in d, d walked already -/
noncomputable def sForKL (f : EF) (g : GT) (b : SF) : SF := fun ρ μ => match f ρ μ with
  | .val (.ref n) μ1 => (match μ1[n]? with
    | some (.lkK o ws kvs) => (match forK n (.lkK o ws kvs) g b (kvs.map fun p => kD p.1) ρ μ1 with
      | .nx ρ2 μ2 => .nx ρ2 μ2
      | .ret d μ2 => .ret d μ2
      | _ => .fail)
    | _ => .fail)
  | _ => .fail
section
variable {K : PySem.W.Frag} {W : WX}
theorem simS_forKL {td : TE} {f : EF} {t : TG} {u : TS} {g : GT} {b : SF} (he : SimE K W td f) (hg : SimG K t g) (hb : SimS K W u b) : SimS K W (tFor (iKeys td) t u) (sForKL f g b) := ⟨fun {H0 S0 ad0 tmp ρ μ σ H E} R k => by
  refine he.run R ?_
  unfold sForKL at k
  cases e1 : f ρ μ with
  | fail => rw [e1] at k; exact k.elim
  | exc x μ1 => rw [e1] at k; exact k.elim
  | val d μ1 =>
    rw [e1] at k
    cases d <;> first | exact k.elim | skip
    rename_i n
    intro v H1 R1
    simp only at k
    split at k
    · rename_i o ws kvs hm
      obtain ⟨S, ad, c⟩ := id R1
      have rv := c.hd
      cases rv with
      | ref ha =>
        rename_i a
        refine ⟨a, o, rfl, .inl ⟨ws, (c.at_ n a _ ha hm).1, ?_⟩⟩
        have R2 : Rel K H1 S ad tmp ρ μ1 σ H1 := ⟨S, ad, c.pop.here⟩
        refine forK_run (K := K) (W := W) (Hl := H1) (S := S) (ad := ad) (n := n) (ds := kvs.map fun p => kD p.1) (@jk_keysK K S ad H1 n a o ws kvs ha) hg hb R2 ?_ (fun _ _ R' => R' (Itk a o ws) H1) (fun R' h => h)
        cases e : forK n (.lkK o ws kvs) g b (kvs.map fun p => kD p.1) ρ μ1 with
        | nx ρ3 μ3 =>
          rw [e] at k
          intro _ σ3 H3 ⟨S3, ad3, c3⟩
          exact k _ _ ⟨S3, ad3, c.pop.trans c3⟩
        | ret d μ3 =>
          rw [e] at k
          intro _ v ρ3 σ3 H3 ⟨S3, ad3, c3⟩
          exact k _ _ _ _ ⟨S3, ad3, c.pop.trans c3⟩
        | bk ρ3 μ3 => rw [e] at k; exact k.elim
        | ct ρ3 μ3 => rw [e] at k; exact k.elim
        | exc _ ρ3 μ3 => rw [e] at k; exact k.elim
        | fail => rw [e] at k; exact k.elim
    · exact k.elim⟩
end
theorem ds_forKL {X : Cx} {W : WX} {tg e : Expr} {body : List Stmt} {f : EF} {g : GT} {b : SF} {pos : Pos} (hp : PassesOwn (model X.prog X.w) X.A X.env X.xe) (hc : X.calm = true) (he : DE X W e f) (hg : DG X tg g) (hb : DSs X W body b) (hs : ∀ x, foldedSetIterable e X.env x = pure x := by intro _; rfl) : DS X W (.For tg e body [] pos) (sForKL f g b) :=
  let ⟨_, p0, q0⟩ := he; let ⟨_, p1, q1⟩ := hg; let ⟨_, p2, q2⟩ := hb; ⟨_, ps_for hp hc (pi_keys p0) p1 p2 hs, simS_forKL q0 q1 q2⟩
/-! ### for k, x in enumerate(xs) -/
def forE (p : D) (g : GT) (b : SF) : Nat → Nat → Ro → Mu → Out
  | 0, _, _, _ => .fail
  | N + 1, i, ρ, μ => match lsOf p μ with
    | some xs => (match xs[i]? with
      | some d => (match g (.tup [.int (i : Int), d]) ρ μ with
        | none => .fail
        | some r => match b r.1 r.2 with
          | .nx ρ2 μ2 => forE p g b N (i + 1) ρ2 μ2
          | .ct ρ2 μ2 => forE p g b N (i + 1) ρ2 μ2
          | .bk ρ2 μ2 => .nx ρ2 μ2
          | .ret d μ2 => .ret d μ2
          | .exc x ρ2 μ2 => .exc x ρ2 μ2
          | .fail => .fail)
      | none => .nx ρ μ)
    | none => .fail
def sForE (N : Nat) (f : AF) (g : GT) (b : SF) : SF := fun ρ μ => match f ρ μ with
  | .val [p] μ1 => forE p g b N 0 ρ μ1
  | .exc x μ1 => .exc x ρ μ1
  | _ => .fail
section
variable {K : PySem.W.Frag} {W : WX}
theorem simS_forE {ta : TA} {t : TG} {u : TS} {f : AF} {g : GT} {b : SF} (N : Nat) (he : SimA K W ta f) (hg : SimG K t g) (hb : SimS K W u b) : SimS K W (tFor (iEnum K ta) t u) (sForE N f g b) := ⟨fun {H0 S0 ad0 tmp ρ μ σ H E} R k => by
  refine he.run R ?_
  unfold sForE at k
  cases e1 : f ρ μ with
  | fail => rw [e1] at k; exact k.elim
  | exc x μ1 => rw [e1] at k; exact fun cls dd H r => k cls dd σ H r
  | val ds μ1 =>
    rw [e1] at k
    intro vs H1 hl R1
    match ds, hl, R1, k with
    | [], _, _, k => exact k.elim
    | _ :: _ :: _, _, _, k => exact k.elim
    | [p], hl, R1, k =>
      have k : PostS K W H0 S0 ad0 tmp E (forE p g b N 0 ρ μ1) := k
      obtain ⟨x, rfl⟩ : ∃ x, vs = [x] := by
        match vs, hl with
        | [x], _ => exact ⟨x, rfl⟩
      have at2 : ∀ {ρ : Ro} {μ : Mu} {σ : L2.St} {H : Hp} {xs : List D}, Rel K H0 S0 ad0 ([(x, p)] ++ tmp) ρ μ σ H → lsOf p μ = some xs → ∃ S ad a us, Core K H0 S0 ad0 S ad ([(x, p)] ++ tmp) ρ μ σ H ∧ x = .ref a ∧ H a = some (.lst us) ∧ RpL K S ad us xs := fun {ρ μ σ H xs} R h1 => by
        obtain ⟨S, ad, c⟩ := R
        obtain ⟨a, us, ea, ha, ra⟩ := lsOf_at c c.hd h1
        exact ⟨S, ad, a, us, c, ea, ha, ra⟩
      obtain ⟨a, us, rfl, ha⟩ : ∃ a us, x = .ref a ∧ H1 a = some (.lst us) := by
        cases N with
        | zero => exact k.elim
        | succ N =>
          unfold forE at k
          split at k
          · rename_i xs h1
            obtain ⟨S, ad, a, us, c, ea, ha, _⟩ := at2 R1 h1
            exact ⟨a, us, ea, ha⟩
          · exact k.elim
      refine ⟨a, us, rfl, .of ha, fun i m σ H => ∃ ρ μ, Rel K H0 S0 ad0 ([(.ref a, p)] ++ tmp) ρ μ σ H ∧ PostS K W H0 S0 ad0 tmp E (forE p g b m i ρ μ), ⟨N, ρ, μ1, R1, k⟩, ?_⟩
      rintro i m σ H ⟨ρ, μ, R, k⟩
      cases m with
      | zero => exact k.elim
      | succ m =>
        unfold forE at k
        split at k
        · rename_i xs h1
          obtain ⟨S, ad, a', us, cc, ea, ha, ra⟩ := at2 R h1
          cases ea
          split at k
          · rename_i d hx
            obtain ⟨u1, g1, g2⟩ := ra.get hx
            refine .inr ⟨⟨us, u1, .of ha, g1⟩, fun σ' H' => ∃ ρ μ, Rel K H0 S0 ad0 ([(.ref a, p)] ++ tmp) ρ μ σ' H' ∧ PostS K W H0 S0 ad0 tmp E (forE p g b m (i + 1) ρ μ), fun σ' H' q => ⟨m, Nat.lt_succ_self m, q⟩, fun z H' yl => ?_⟩
            obtain ⟨T, v1, rfl, hT, rfl, y1⟩ := yl
            have e1 := y1 us (.of ha)
            rw [g1] at e1
            cases e1
            have R2 := newTup cc (.cons (.int (i : Int)) (.cons g2 .nil)) hT
            cases e2 : g (.tup [.int (i : Int), d]) ρ μ with
            | none => rw [e2] at k; exact k.elim
            | some r =>
              rw [e2] at k
              simp only at k
              refine hg.run R2 e2 fun σ2 H2 R2 => hb.run (E := { E with nx := fun σ' H' => ∃ ρ μ, Rel K H0 S0 ad0 ([(.ref a, p)] ++ tmp) ρ μ σ' H' ∧ PostS K W H0 S0 ad0 tmp E (forE p g b m (i + 1) ρ μ), ct := fun σ' H' => ∃ ρ μ, Rel K H0 S0 ad0 ([(.ref a, p)] ++ tmp) ρ μ σ' H' ∧ PostS K W H0 S0 ad0 tmp E (forE p g b m (i + 1) ρ μ), bk := E.nx }) R2 ?_
              cases e3 : b r.1 r.2 with
              | nx ρ2 μ2 => rw [e3] at k; exact fun σ' H' R' => ⟨ρ2, μ2, R', k⟩
              | ct ρ2 μ2 => rw [e3] at k; exact fun σ' H' R' => ⟨ρ2, μ2, R', k⟩
              | bk ρ2 μ2 => rw [e3] at k; exact PostS.tl (E := E) (o := .nx ρ2 μ2) k
              | ret d μ2 => rw [e3] at k; exact PostS.tl (E := E) (o := .ret d μ2) k
              | exc x ρ2 μ2 => rw [e3] at k; exact PostS.tl (E := E) (o := .exc x ρ2 μ2) k
              | fail => rw [e3] at k; exact k
          · rename_i hno
            exact .inl ⟨⟨us, .of ha, by rw [ra.length]; exact List.getElem?_eq_none_iff.mp hno⟩, k σ H (R.sub fun p m => List.mem_append_right _ m)⟩
        · exact k.elim⟩
theorem ds_forE {X : Cx} {W : WX} {e : Expr} {elts : List Expr} {kk : Nat} {body : List Stmt} {fa : AF} {g : GT} {s : SF} {p tpos pos pos' : Pos} (N : Nat) (hp : PassesOwn (model X.prog X.w) X.A X.env X.xe) (hc : X.calm = true) (hg0 : Gl X "enumerate") (hm0 : X.mg "enumerate" = none) (ha : DA X W [e] fa)
    (hg : DG X (.Tuple elts kk tpos) g) (hb : DSs X W body s) (hs : ∀ x, foldedSetIterable (.Call (.Name "enumerate" p) [e] [] pos) X.env x = pure x := by intro _; rfl)
    (h1 : starEach [e] X.env = [(false, eval e X.env)] := by rfl) :
    DS X W (.For (.Tuple elts kk tpos) (.Call (.Name "enumerate" p) [e] [] pos) body [] pos') (sForE N fa g s) :=
  let ⟨_, p0, q0⟩ := ha; let ⟨_, p1, q1⟩ := hg; let ⟨_, p2, q2⟩ := hb; ⟨_, ps_for hp hc (pi_enum hg0 hm0 p0 h1) p1 p2 hs, simS_forE N q0 q1 q2⟩
end
theorem forE_go {p : D} {g : GT} {b : SF} {xs : List D} (I : Nat → Ro → Mu → Prop) (hp : ∀ i ρ μ, I i ρ μ → lsOf p μ = some xs)
    (hs : ∀ (i : Nat) (d : D) (ρ : Ro) (μ : Mu), xs[i]? = some d → I i ρ μ → ∃ ρ' μ', (turn g b (.tup [.int (i : Int), d]) ρ μ = .nx ρ' μ' ∨ turn g b (.tup [.int (i : Int), d]) ρ μ = .ct ρ' μ') ∧ I (i + 1) ρ' μ') : ∀ (m i : Nat) (ρ : Ro) (μ : Mu), xs.length < m + i → i ≤ xs.length → I i ρ μ → ∃ ρ' μ', forE p g b m i ρ μ = .nx ρ' μ' ∧ I xs.length ρ' μ'
  | 0, i, ρ, μ, h1, h2, _ => absurd h1 (by omega)
  | m + 1, i, ρ, μ, h1, h2, h => by
    unfold forE
    rw [hp i ρ μ h]
    simp only
    by_cases hi : i < xs.length
    · have ex := List.getElem?_eq_getElem hi
      obtain ⟨ρ', μ', t, h'⟩ := hs i _ ρ μ ex h
      rw [ex]
      simp only
      unfold turn at t
      cases e2 : g (.tup [.int (i : Int), xs[i]]) ρ μ with
      | none => rw [e2] at t; rcases t with t | t <;> cases t
      | some r =>
        rw [e2] at t
        simp only at t ⊢
        rcases t with t | t
        · rw [t]
          simp only
          exact forE_go I hp hs m (i + 1) ρ' μ' (by omega) (by omega) h'
        · rw [t]
          simp only
          exact forE_go I hp hs m (i + 1) ρ' μ' (by omega) (by omega) h'
    · have e : i = xs.length := by omega
      have ex : xs[i]? = none := List.getElem?_eq_none_iff.mpr (by omega)
      rw [ex]
      rw [e] at h
      exact ⟨ρ, μ, rfl, h⟩
/-! ### min(xs, default=z) -/
def rMinDf (K : PySem.W.Frag) : List V → List V → Hp → VK → Prop := fun xs zs H Q => ∃ (a : Addr) (ns : List Int) (z : V), xs = [.ref a] ∧ zs = [z] ∧ SqL K H a (ns.map V.int) ∧ (ns = [] → Q z H) ∧ (ns ≠ [] → Q (.int (minI ns)) H)
section
variable {X : Cx} {W : WX}
theorem call_minDf (hc : X.calm = true) (hu : X.A.units + 64 < cLine) : CallRK X (.builtin "min") ["default"] (rMinDf X.K) := fun pins s σ H xs zs us ws Q I r rz h => by
  obtain ⟨a, ns, z, rfl, rfl, hs, q1, q2⟩ := h
  obtain ⟨its, rv, pl, sz⟩ := I.list hs
  obtain ⟨u, eu, ru⟩ := vals1 r
  subst eu
  cases ru
  obtain ⟨w, ew, rw'⟩ := vals1 rz
  subst ew
  have hd : PyData.depthAll (ns.map PyData.int) ≤ 0 := dep_map fun x _ => by simp
  have hr : ReadsAll s.heap its.toArray.toList (ns.map PyData.int) [] := by
    have := reads_ints (hp := s.heap) rv.ints
    simpa using this
  refine PySem.W.min_list_default (I.ok.hd hc) pl.isList hr (alike_ints ns) (by omega) (fun e h' tk hk => ?_) fun y ys i v h' tk bs e hv hrd hk => ?_
  · exact ⟨z, H, I.kept hk, rw', q1 (List.map_eq_nil_iff.mp e)⟩
  · cases ns with
    | nil => cases e
    | cons n r2 =>
      rw [List.map_cons] at e
      injection e with e1 e2
      subst e1 e2
      rw [PySem.W.minD_ints] at hrd
      cases hrd
      exact ⟨.int (minI (n :: r2)), H, I.kept hk, ⟨_, rfl⟩, q2 (by simp)⟩
@[simp] def eMinDf (f z : EF) : EF := fun ρ μ => (f ρ μ).bind fun d μ1 => (z ρ μ1).bind fun y μ2 => match (lsOf d μ2).bind intsD with
  | some [] => .val y μ2
  | some (n :: r) => .val (.int (minI (n :: r))) μ2
  | none => .fail
theorem de_minDf {e ez : Expr} {fe fz : EF} {p pos kpos : Pos} (hc : X.calm = true) (hu : X.A.units + 64 < cLine) (hg : Gl X "min") (hm : X.mg "min" = none) (he : DE X W e fe) (hz : DE X W ez fz) (hse : starEach [e] X.env = (false, eval e X.env) :: starEach [] X.env := by rfl)
    (h1 : backTo pos (starEach [e] X.env) = (false, eval e X.env) :: backTo pos (starEach [] X.env) := by rfl) (h2 : (backTo pos (starEach [e] X.env)).any (·.1) = false := by rfl) : DE X W (.Call (.Name "min" p) [e] [⟨some "default", ez, kpos⟩] pos) (eMinDf fe fz) := by
  obtain ⟨te, p1, q1⟩ := he
  obtain ⟨tz, p2, q2⟩ := hz
  refine ⟨_, pe_callBK (call_minDf hc hu) hg hm rfl (pa_cons p1 pa_nil hse) (pk_cons p2 pk_nil) (by decide) (by decide) h1 h2, ⟨fun {H0 S0 ad0 tmp ρ μ σ H Q} R k => ?_⟩⟩
  refine q1.run R ?_
  unfold eMinDf at k
  cases e1 : fe ρ μ with
  | fail => rw [e1] at k; exact k.elim
  | exc z μ1 => rw [e1] at k; exact k
  | val d μ1 =>
    rw [e1] at k
    simp only [bind_val] at k
    intro v H1 R1
    refine q2.run R1 ?_
    cases e2 : fz ρ μ1 with
    | fail => rw [e2] at k; exact k.elim
    | exc z μ2 => rw [e2] at k; exact fun cls dd H r => k cls dd H r.pop
    | val y μ2 =>
      rw [e2] at k
      simp only [bind_val] at k
      intro u H2 R2
      obtain ⟨S, ad, c, rx, ry⟩ := R2.two
      split at k
      · rename_i hs
        obtain ⟨es, h1, h2⟩ := Option.bind_eq_some_iff.mp hs
        obtain ⟨a, vs, rfl, q, rr⟩ := lsOf_at c rx h1
        have hv := intsD_at rr h2
        subst hv
        exact ⟨a, [], u, rfl, rfl, .of q, fun _ => k _ _ ⟨S, ad, c.push ry⟩, fun z => absurd rfl z⟩
      · rename_i n r hs
        obtain ⟨es, h1, h2⟩ := Option.bind_eq_some_iff.mp hs
        obtain ⟨a, vs, rfl, q, rr⟩ := lsOf_at c rx h1
        have hv := intsD_at rr h2
        subst hv
        exact ⟨a, n :: r, u, rfl, rfl, .of q, fun z => absurd z (by simp), fun _ => k _ _ (c.flat (flat_int _))⟩
      · exact k.elim
/-! ### len(set(xs)), the ints all distinct -/
@[simp] def eLenSet (f : EF) : EF := fun ρ μ => (f ρ μ).bind fun d μ1 => match (lsOf d μ1).bind intsD with
  | some ns => if ns.Nodup ∧ ns.length ≤ 4000 then .val (.int (ns.length : Int)) μ1 else .fail
  | none => .fail
theorem de_lenSet {a : Expr} {fa : EF} {p p2 q pos : Pos} (hc : X.calm = true) (hg : Gl X "len") (hm : X.mg "len" = none) (hg2 : Gl X "set") (hm2 : X.mg "set" = none) (ha : DE X W a fa)
    (na : starEach [a] X.env = (false, eval a X.env) :: starEach [] X.env := by rfl) : DE X W (.Call (.Name "len" p) [.Call (.Name "set" p2) [a] [] q] [] pos) (eLenSet fa) := by
  obtain ⟨ta, p1, q1⟩ := ha
  refine ⟨_, RZ.pe_lenSetI hg hm hg2 hm2 p1 hc na, ⟨fun {H0 S0 ad0 tmp ρ μ σ H Q} R k => ?_⟩⟩
  refine q1.run R ?_
  unfold eLenSet at k
  cases e1 : fa ρ μ with
  | fail => rw [e1] at k; exact k.elim
  | exc z μ1 => rw [e1] at k; exact k
  | val d μ1 =>
    rw [e1] at k
    simp only [bind_val] at k
    intro v H1 R1
    obtain ⟨S, ad, c⟩ := R1
    split at k
    · rename_i ns hs
      split at k
      · rename_i hh
        obtain ⟨es, h1, h2⟩ := Option.bind_eq_some_iff.mp hs
        obtain ⟨a, vs, rfl, q, rr⟩ := lsOf_at c c.hd h1
        have hv := intsD_at rr h2
        subst hv
        exact ⟨a, ns, rfl, .of q, hh.1, hh.2, k _ _ (c.pop.flat (flat_int _))⟩
      · exact k.elim
    · exact k.elim
/-! ### dict(pairs) -/
@[simp] def prsD : List D → Option (List (Key × D))
  | [] => some []
  | .tup [k, v] :: r => (kOf k).bind fun y => (prsD r).map ((y, v) :: ·)
  | _ => none
theorem prsD_at {K : PySem.W.Frag} {S : Hp} {ad : Ad} : ∀ {ds : List D} {vs : List V} {kvs : List (Key × D)}, RpL K S ad vs ds → prsD ds = some kvs → ∃ ps ws, vs = ps.map V.ref ∧ Paired (fun p (kv : Key × V) => S p = some (.tup [kV kv.1, kv.2])) ps ws ∧ DR K S ad ws kvs
  | [], _, _, r, h => by cases r; cases h; exact ⟨[], [], rfl, .nil, .nil⟩
  | d :: ds, _, _, r, h => by
    cases r with
    | cons r1 r2 =>
      unfold prsD at h
      split at h
      · rename_i hh; cases hh
      · rename_i k v r' hh
        cases hh
        obtain ⟨y, h1, h2⟩ := Option.bind_eq_some_iff.mp h
        obtain ⟨zs, h3, rfl⟩ := Option.map_eq_some_iff.mp h2
        obtain ⟨ps, ws, rfl, q1, q2⟩ := prsD_at r2 h3
        cases r1 with
        | tup hs hr =>
          cases hr with
          | cons ra rb =>
            cases rb with
            | cons rc rd =>
              cases rd
              rw [kOf_at ra h1] at hs
              exact ⟨_ :: ps, (y, _) :: ws, rfl, .cons hs q1, .cons rc q2⟩
      · cases h
@[simp] def gDictP : List D → Mu → Res D := fun ds μ => match ds with
  | [d] => (match (lsOf d μ).bind prsD with
    | some kvs => .val (.ref μ.length) (μ ++ [.dK (mergeD [] kvs)])
    | none => .fail)
  | _ => .fail
theorem cb_dictP (hc : X.calm = true) : CbO X W (.type "dict") gDictP := ⟨_, call_dictP hc, ⟨fun {H0 S0 ad0 tmp ρ μ σ H Q xs ds} hl R k => by
  obtain ⟨S, ad, c, r⟩ := R.args hl
  unfold gDictP at k
  split at k
  · rename_i d
    obtain ⟨v, rfl, rv⟩ := rpL1 r
    split at k
    · rename_i kvs hs
      obtain ⟨es, h1, h2⟩ := Option.bind_eq_some_iff.mp hs
      obtain ⟨a, vs, rfl, q, rr⟩ := lsOf_at c rv h1
      obtain ⟨ps, ws, rfl, q1, q2⟩ := prsD_at rr h2
      exact ⟨a, ps, ws, rfl, .of q, q1.mono fun p kv h => .of (c.sh _ _ h), fun p hp => k _ _ (newDK c (dr_merge q2 .nil) hp)⟩
    · exact k.elim
  · exact k.elim⟩⟩
end
/-! ### a tuple in a list -/
def gInL (neg : Bool) : GF := fun d e μ => match toPy d, lsOf e μ with
  | some p, some ys => (match toPyL ys with
    | some ps => if SeqAt.shaped p = true ∧ PyData.canLayAll0 ps = true then .val (.bl (if neg then !ps.any fun z => PyData.eqv z p else ps.any fun z => PyData.eqv z p)) μ else .fail
    | none => .fail)
  | _, _ => .fail
def rInL (X : Cx) (neg : Bool) : R2 := fun x y H Q => ∃ p ps, Dp X.K H x p ∧ Dp X.K H y (.list ps) ∧ SeqAt.shaped p = true ∧ PyData.canLayAll0 ps = true ∧ Q (.bl (if neg then !ps.any fun z => PyData.eqv z p else ps.any fun z => PyData.eqv z p)) H
theorem op_inL {X : Cx} (hu : X.A.units + 65 < cLine) : OpR X (compareOp .In) (rInL X false) := by
  intro pins s σ H x y v u Q I rx ry ⟨p, ps, hx, hy, sx, sy, q⟩
  obtain ⟨as, r1⟩ := Dp.reads I p x v hx rx
  obtain ⟨bs, r2⟩ := Dp.reads I (.list ps) y u hy ry
  exact SeqAt.in_list_reads r2 r1 sy (SeqAt.canLay_of_shaped sx) (room_inT sx hu) ⟨.bl _, H, I, rfl, q⟩
theorem op_notInL {X : Cx} (hu : X.A.units + 65 < cLine) : OpR X (compareOp .NotIn) (rInL X true) := by
  intro pins s σ H x y v u Q I rx ry ⟨p, ps, hx, hy, sx, sy, q⟩
  obtain ⟨as, r1⟩ := Dp.reads I p x v hx rx
  obtain ⟨bs, r2⟩ := Dp.reads I (.list ps) y u hy ry
  exact SeqAt.notIn_list_reads r2 r1 sy (SeqAt.canLay_of_shaped sx) (room_inT sx hu) ⟨.bl _, H, I, rfl, q⟩
theorem simO_inL {X : Cx} {W : WX} {neg : Bool} : SimO X.K W (rInL X neg) (gInL neg) := ⟨fun {H0 S0 ad0 tmp ρ μ σ H Q x y d e} R k => by
  obtain ⟨S, ad, c, r1, r2⟩ := R.two
  unfold gInL at k
  split at k
  · rename_i p ys hp hy
    split at k
    · rename_i ps hps
      split at k
      · rename_i hh
        obtain ⟨a, vs, rfl, q, rr⟩ := lsOf_at c r2 hy
        exact ⟨p, ps, toPy_dp c.sh r1 hp, .lst (.of q) (toPyL_dp c.sh rr hps), hh.1, hh.2, k _ _ (c.flat (flat_bl _))⟩
      · exact k.elim
    · exact k.elim
  · exact k.elim⟩
theorem oc_inL {X : Cx} {W : WX} (hu : X.A.units + 65 < cLine) : CmO X W .In (gInL false) := ⟨_, op_inL hu, simO_inL⟩
theorem oc_notinL {X : Cx} {W : WX} (hu : X.A.units + 65 < cLine) : CmO X W .NotIn (gInL true) := ⟨_, op_notInL hu, simO_inL⟩
/-! ### sorted(rows), the rows tuples of ints and texts, alike -/
noncomputable def pyD (d : D) : PyData := (toPy d).getD .none
noncomputable def srtP (xs : List D) : List D := xs.mergeSort (PySem.W.dataLe false pyD)
def rowOk : List PyData → Bool := fun ps => (ps.all fun p => ps.all fun q => PySem.W.alike p q) && ps.all fun p => match p with
  | .tuple (_ :: _) => decide (p.depth ≤ 60)
  | _ => false
noncomputable def gSortP : List D → Mu → Res D := fun ds μ => match ds with
  | [d] => (match lsOf d μ with
    | some xs => (match toPyL xs with
      | some ps => if rowOk ps = true then .val (.lst (srtP xs)) μ else .fail
      | none => .fail)
    | none => .fail)
  | _ => .fail
def rSortP (K : PySem.W.Frag) : List V → Hp → VK → Prop := fun vs H Q => ∃ (a : Addr) (xs : List V) (bs : List (V × D)), vs = [V.ref a] ∧ SqL K H a xs ∧ xs = bs.map (·.1) ∧ (∀ b ∈ bs, Dp K H b.1 (pyD b.2)) ∧ rowOk (bs.map fun b => pyD b.2) = true ∧
  ∀ p, H p = none → Q (.ref p) (upd H p (.lst ((bs.mergeSort (PySem.W.dataLe false fun b => pyD b.2)).map (·.1))))
theorem each_vals : ∀ {us : List Value} {bs : List (V × D)}, Vals (bs.map (·.1)) us → PySem.W.EachIs (fun u (b : V × D) => RelV b.1 u) us bs
  | _, [], r => by
    rw [List.map_nil] at r
    cases r
    exact .nil
  | _, b :: bs, r => by
    rw [List.map_cons] at r
    cases r with
    | cons h t => exact .cons h (each_vals t)
theorem vals_each : ∀ {us : List Value} {bs : List (V × D)}, PySem.W.EachIs (fun u (b : V × D) => RelV b.1 u) us bs → Vals (bs.map (·.1)) us
  | _, _, .nil => .nil
  | _, _, .cons h t => .cons h (vals_each t)
theorem each_mem2 {R R' : Value → V × D → Prop} : ∀ {us : List Value} {bs : List (V × D)}, PySem.W.EachIs R us bs → (∀ u b, b ∈ bs → R u b → R' u b) → PySem.W.EachIs R' us bs
  | _, _, .nil, _ => .nil
  | _, _, .cons h t, k => .cons (k _ _ List.mem_cons_self h) (each_mem2 t fun u b m => k u b (List.mem_cons_of_mem _ m))
theorem cr_sortedP {X : Cx} (hu : X.A.units + 64 < cLine) : CallR X (.builtin "sorted") (rSortP X.K) := fun pins s σ H vs us Q I rs h => by
  obtain ⟨a, xs, bs, rfl, hs, rfl, hx, hrow, q⟩ := h
  obtain ⟨its, rv, pl, sz⟩ := I.list hs
  obtain ⟨u, eu, ru⟩ := vals1 rs
  subst eu
  cases ru
  unfold rowOk at hrow
  rw [Bool.and_eq_true, List.all_eq_true, List.all_eq_true] at hrow
  obtain ⟨h1, h2⟩ := hrow
  have shape : ∀ b ∈ bs, ∃ p ps, pyD b.2 = .tuple (p :: ps) ∧ (pyD b.2).depth ≤ 60 := fun b m => by
    have := h2 _ (List.mem_map_of_mem (f := fun b : V × D => pyD b.2) m)
    split at this
    · rename_i p ps e
      exact ⟨p, ps, e, of_decide_eq_true this⟩
    · cases this
  refine PySem.W.sorted_data (enc := fun b : V × D => pyD b.2) (R := fun u (b : V × D) => RelV b.1 u) (bs := bs) (vs := its) pl.isList (each_vals rv) (each_mem2 (each_vals rv) fun u b m r => Dp.reads I _ _ u (hx b m) r) ?_ (.inl ?_) ?_ ?_ ?_
  · intro d hd d' hd'
    exact List.all_eq_true.mp (h1 d hd) d' hd'
  · intro d hd
    obtain ⟨b, m, rfl⟩ := List.mem_map.mp hd
    obtain ⟨p, ps, e, _⟩ := shape b m
    exact ⟨p, ps, e⟩
  · have := rv.length
    rw [List.length_map] at this sz
    exact sz
  · intro b m
    obtain ⟨p, ps, e, hd⟩ := shape b m
    omega
  · intro out hl e
    obtain ⟨ep, ge⟩ := sortedAll_at s.heap its out.toArray
    refine ⟨.ref (s.heap.objs.size + 1), upd H (s.heap.objs.size + 1) (.lst ((bs.mergeSort (PySem.W.dataLe false fun b => pyD b.2)).map (·.1))), I.laid (t' := s.toks) (fun b o g => sortedAll_old g) (Nat.le_succ _) ⟨?_, out, ep, vals_each e, ge⟩, rfl, q _ (I.hok.fresh (Nat.le_succ _))⟩
    rw [List.length_map, List.length_mergeSort]
    rw [List.length_map] at sz
    exact sz
theorem rpLzipE {K : PySem.W.Frag} {S : Hp} {ad : Ad} : ∀ {vs : List V} {ds : List D}, RpL K S ad vs ds → ∃ bs : List (V × D), bs.map (·.1) = vs ∧ bs.map (·.2) = ds ∧ ∀ b ∈ bs, Rp K S ad b.1 b.2
  | _, _, .nil => ⟨[], rfl, rfl, fun b m => by cases m⟩
  | _, _, .cons h t => by
    obtain ⟨bs, e1, e2, e3⟩ := rpLzipE t
    exact ⟨(_, _) :: bs, by rw [List.map_cons, e1], by rw [List.map_cons, e2], fun b m => by
      rcases List.mem_cons.mp m with rfl | m
      · exact h
      · exact e3 b m⟩
theorem zipErpL {K : PySem.W.Frag} {S : Hp} {ad : Ad} : ∀ {bs : List (V × D)}, (∀ b ∈ bs, Rp K S ad b.1 b.2) → RpL K S ad (bs.map (·.1)) (bs.map (·.2))
  | [], _ => .nil
  | b :: bs, h => .cons (h b List.mem_cons_self) (zipErpL fun x m => h x (List.mem_cons_of_mem _ m))
theorem toPyD_of : ∀ {ds : List D} {ps : List PyData}, toPyL ds = some ps → ds.map pyD = ps ∧ ∀ d ∈ ds, toPy d = some (pyD d)
  | [], ps, h => by simp only [toPyL] at h; cases h; exact ⟨rfl, fun d m => by cases m⟩
  | d :: ds, ps, h => by
    simp only [toPyL, Option.bind_eq_some_iff, Option.map_eq_some_iff] at h
    obtain ⟨p, h1, qs, h2, rfl⟩ := h
    obtain ⟨e1, e2⟩ := toPyD_of h2
    have e : pyD d = p := by unfold pyD; rw [h1]; rfl
    refine ⟨by rw [List.map_cons, e, e1], fun x m => ?_⟩
    rcases List.mem_cons.mp m with rfl | m
    · rw [e]; exact h1
    · exact e2 x m
theorem map_mergeSort {α β : Type} (f : α → β) (le : β → β → Bool) : ∀ (l : List α), (l.mergeSort fun a b => le (f a) (f b)).map f = (l.map f).mergeSort le := fun l => List.map_mergeSort (fun _ _ _ _ => rfl)
theorem cb_sortP {X : Cx} {W : WX} (hu : X.A.units + 64 < cLine) : CbO X W (.builtin "sorted") gSortP := ⟨_, cr_sortedP hu, ⟨fun {H0 S0 ad0 tmp ρ μ σ H Q xs ds} hl R k => by
  obtain ⟨S, ad, c, r⟩ := R.args hl
  unfold gSortP at k
  split at k
  · rename_i d
    obtain ⟨v, rfl, rv⟩ := rpL1 r
    split at k
    · rename_i es hs
      split at k
      · rename_i ps hp
        split at k
        · rename_i hrow
          obtain ⟨a, vs, rfl, q, rr⟩ := lsOf_at c rv hs
          obtain ⟨bs, e1, e2, e3⟩ := rpLzipE rr
          obtain ⟨t1, t2⟩ := toPyD_of hp
          refine ⟨a, vs, bs, rfl, .of q, e1.symm, fun b m => toPy_dp c.sh (e3 b m) (t2 _ (by rw [← e2]; exact List.mem_map_of_mem m)), ?_, fun p hp' => ?_⟩
          · rw [show (bs.map fun b => pyD b.2) = (bs.map (·.2)).map pyD by rw [List.map_map]; rfl, e2, t1]
            exact hrow
          · have e4 : (bs.mergeSort (PySem.W.dataLe false fun b : V × D => pyD b.2)).map (·.2) = srtP es := by
              unfold srtP
              rw [← e2]
              exact map_mergeSort (·.2) (PySem.W.dataLe false pyD) bs
            have rz := zipErpL (K := X.K) (S := S) (ad := ad) (bs := bs.mergeSort (PySem.W.dataLe false fun b : V × D => pyD b.2)) fun b m => e3 b (List.mem_mergeSort.mp m)
            rw [e4] at rz
            exact k _ _ (newLst c rz hp')
        · exact k.elim
      · exact k.elim
    · exact k.elim
  · exact k.elim⟩⟩
/-! .. as a cell -/
noncomputable def gSortPN : List D → Mu → Res D := fun ds μ => match ds with
  | [d] => (match lsOf d μ with
    | some xs => (match toPyL xs with
      | some ps => if rowOk ps = true then .val (.ref μ.length) (μ ++ [.lst (srtP xs)]) else .fail
      | none => .fail)
    | none => .fail)
  | _ => .fail
theorem cb_sortPN {X : Cx} {W : WX} (hu : X.A.units + 64 < cLine) : CbO X W (.builtin "sorted") gSortPN := ⟨_, cr_sortedP hu, ⟨fun {H0 S0 ad0 tmp ρ μ σ H Q xs ds} hl R k => by
  obtain ⟨S, ad, c, r⟩ := R.args hl
  unfold gSortPN at k
  split at k
  · rename_i d
    obtain ⟨v, rfl, rv⟩ := rpL1 r
    split at k
    · rename_i es hs
      split at k
      · rename_i ps hp
        split at k
        · rename_i hrow
          obtain ⟨a, vs, rfl, q, rr⟩ := lsOf_at c rv hs
          obtain ⟨bs, e1, e2, e3⟩ := rpLzipE rr
          obtain ⟨t1, t2⟩ := toPyD_of hp
          refine ⟨a, vs, bs, rfl, .of q, e1.symm, fun b m => toPy_dp c.sh (e3 b m) (t2 _ (by rw [← e2]; exact List.mem_map_of_mem m)), ?_, fun p hp' => ?_⟩
          · rw [show (bs.map fun b => pyD b.2) = (bs.map (·.2)).map pyD by rw [List.map_map]; rfl, e2, t1]
            exact hrow
          · have e4 : (bs.mergeSort (PySem.W.dataLe false fun b : V × D => pyD b.2)).map (·.2) = srtP es := by
              unfold srtP
              rw [← e2]
              exact map_mergeSort (·.2) (PySem.W.dataLe false pyD) bs
            have rz := zipErpL (K := X.K) (S := S) (ad := ad) (bs := bs.mergeSort (PySem.W.dataLe false fun b : V × D => pyD b.2)) fun b m => e3 b (List.mem_mergeSort.mp m)
            rw [e4] at rz
            exact k _ _ (newCell c rz hp')
        · exact k.elim
      · exact k.elim
    · exact k.elim
  · exact k.elim⟩⟩
end Dn

/-! Dn41: ==, != of dicts whose values are data (tuples, ..); comprehensions over dicts, as equations. -/
namespace Dn
open PySem PySem.Spec PyProof.Rows L2
def eqPy (d e : D) : Option Bool := match toPy d, toPy e with
  | some p, some q => if SeqAt.shaped p = true ∧ SeqAt.shaped q = true then some (PyData.eqv p q) else none
  | _, _ => none
inductive HitX (K : PySem.W.Frag) (H : Hp) (kb : List (Key × V)) : List (Key × V) → Bool → Prop
  | nil : HitX K H kb [] true
  | miss {k : Key} {v : V} {r : List (Key × V)} : valV kb k = none → HitX K H kb ((k, v) :: r) false
  | hit {k : Key} {v u : V} {r : List (Key × V)} {p q : PyData} {b : Bool} : valV kb k = some u → Dp K H v p → Dp K H u q → SeqAt.shaped p = true → SeqAt.shaped q = true → HitX K H kb r b → HitX K H kb ((k, v) :: r) (PyData.eqv p q && b)
def hitsP (kb : List (Key × D)) : List (Key × D) → Option Bool
  | [] => some true
  | (k, d) :: r => match valD kb k with
    | none => some false
    | some e => (eqPy d e).bind fun b => (hitsP kb r).map fun c => b && c
theorem hitsP_at {K : PySem.W.Frag} {S H : Hp} {ad : Ad} (sh : Same S H) {wb : List (Key × V)} {kb : List (Key × D)} (rb : DR K S ad wb kb) : ∀ {wa : List (Key × V)} {ka : List (Key × D)} {b : Bool}, DR K S ad wa ka → hitsP kb ka = some b → HitX K H wb wa b
  | [], _, b, r, h => by cases r; cases h; exact .nil
  | (k, v) :: wa, _, b, r, h => by
    cases r with
    | @cons _ _ d _ ka p t =>
      unfold hitsP at h
      split at h
      · rename_i hn
        cases h
        exact .miss (rb.misses hn)
      · rename_i e he
        simp only [Option.bind_eq_some_iff, Option.map_eq_some_iff] at h
        obtain ⟨b1, h1, b2, h2, rfl⟩ := h
        obtain ⟨u, g1, g2⟩ := rb.gets he
        unfold eqPy at h1
        split at h1
        · rename_i pp qq hp hq
          split at h1
          · rename_i hh
            cases h1
            exact .hit g1 (toPy_dp sh p hp) (toPy_dp sh g2 hq) hh.1 hh.2 (hitsP_at sh rb t h2)
          · cases h1
        · cases h1
theorem hitX_run {X : Cx} {pins : List (Addr × Obj)} {σ : L2.St} {H : Hp} {s : Shared} (I : Inv X pins σ H s) {A : Around} (hu : A.units + 64 < cLine) {wb : List (Key × V)} {vb : List (Key × Value)} (rb : KV wb vb) : ∀ {wa : List (Key × V)} {va : List (Key × Value)} {b : Bool}, KV wa va → HitX X.K H wb wa b → PySem.W.KeqHitsP X.prog X.w A s vb va b
  | [], _, b, r, h => by cases r; cases h; exact .nil
  | (k, v) :: wa, _, b, r, h => by
    cases r with
    | @cons _ q _ qs p t =>
      obtain ⟨p1, p2⟩ := p
      obtain ⟨key, u⟩ := q
      have p1 : k = key := p1
      subst p1
      cases h with
      | miss hn => exact .miss (RelO.none_of (by rw [← hn]; exact rb.val k))
      | @hit _ _ x _ pp qq b1 hx hp hq sp sq hr =>
        obtain ⟨y, hy, ry⟩ := RelO.some_of (v := x) (o := valueAt vb k) (by rw [← hx]; exact rb.val k)
        obtain ⟨as, r1⟩ := Dp.reads I pp v u hp p2
        obtain ⟨bs, r2⟩ := Dp.reads I qq x y hq ry
        exact .hit hy (SeqAt.eqAt_reads pp qq A s u y as bs r1 r2 (SeqAt.canLay_of_shaped sp) (SeqAt.canLay_of_shaped sq) (SeqAt.room_of_shaped sp hu)).eqP (hitX_run I hu rb t hr)
def DEqX (K : PySem.W.Frag) (H : Hp) (x y : V) (r : Bool) : Prop := ∃ a b, x = .ref a ∧ y = .ref b ∧ ∃ (ka kb : List (Key × V)) (q : Bool), H a = some (.dK ka) ∧ H b = some (.dK kb) ∧ (ka.length = kb.length → HitX K H kb ka q) ∧ r = (ka.length == kb.length && q)
def rDEqX (K : PySem.W.Frag) (f : Bool → Bool) : R2 := fun x y H Q => ∃ r, DEqX K H x y r ∧ Q (.bl (f r)) H
section
variable {X : Cx}
theorem op_deqX (hu : X.A.units + 65 < cLine) : OpR X (compareOp .Eq) (rDEqX X.K id) := by
  intro pins s σ H x y v u Q I rx ry h
  obtain ⟨r, ⟨a, b, rfl, rfl, ka, kb, p, ea, eb, hh, rfl⟩, q⟩ := h
  cases rx; cases ry
  obtain ⟨_, ya, va, ra, da⟩ := dk_of I.hok ea
  obtain ⟨_, yb, vb, rb, db⟩ := dk_of I.hok eb
  refine rcP_dictsK (r := p) ya yb da db (by omega) (fun hl => hitX_run I (by show X.A.units + 1 + 64 < cLine; omega) rb ra (hh (by rw [ra.length, rb.length]; exact hl))) _ _ ⟨.bl _, H, I, ?_, q⟩
  rw [ra.length, rb.length]; rfl
theorem op_dneX (hu : X.A.units + 65 < cLine) : OpR X (compareOp .NotEq) (rDEqX X.K not) := by
  intro pins s σ H x y v u Q I rx ry h
  obtain ⟨r, ⟨a, b, rfl, rfl, ka, kb, p, ea, eb, hh, rfl⟩, q⟩ := h
  cases rx; cases ry
  obtain ⟨_, ya, va, ra, da⟩ := dk_of I.hok ea
  obtain ⟨_, yb, vb, rb, db⟩ := dk_of I.hok eb
  refine rcP_dictsNeK (r := p) ya yb da db (by omega) (fun hl => hitX_run I (by show X.A.units + 1 + 64 < cLine; omega) rb ra (hh (by rw [ra.length, rb.length]; exact hl))) _ _ ⟨.bl _, H, I, ?_, q⟩
  rw [ra.length, rb.length]; rfl
end
def dEqP (μ : Mu) (n m : Nat) : Option Bool := match μ[n]?, μ[m]? with
  | some (.dK ka), some (.dK kb) => if ka.length = kb.length then hitsP kb ka else some false
  | _, _ => none
def gDEqPF (f : Bool → Bool) : GF := fun d e μ => match d, e with
  | .ref n, .ref m => (match dEqP μ n m with
    | some b => .val (.bl (f b)) μ
    | none => .fail)
  | _, _ => .fail
def gDEqP : GF := gDEqPF id
def gDNeP : GF := gDEqPF not
theorem simO_deqP {K : PySem.W.Frag} {W : WX} (f : Bool → Bool) : SimO K W (rDEqX K f) (gDEqPF f) := ⟨fun {H0 S0 ad0 tmp ρ μ σ H Q x y d e} R k => by
  obtain ⟨S, ad, c, r1, r2⟩ := R.two
  unfold gDEqPF at k
  split at k
  · rename_i n m
    split at k
    · rename_i b hb
      cases r1 with
      | ref ha =>
        rename_i a
        cases r2 with
        | ref hb2 =>
          rename_i a2
          unfold dEqP at hb
          split at hb
          · rename_i ka kb h1 h2
            obtain ⟨wa, g1, g2⟩ := (c.at_ n a _ ha h1).dr
            obtain ⟨wb, g3, g4⟩ := (c.at_ m a2 _ hb2 h2).dr
            refine ⟨b, ⟨a, a2, rfl, rfl, wa, wb, b, g1, g3, fun hl => ?_, ?_⟩, k _ _ (c.flat (flat_bl _))⟩
            · rw [if_pos (by rw [← g2.length, ← g4.length]; exact hl)] at hb
              exact hitsP_at c.sh g4 g2 hb
            · rw [g2.length, g4.length]
              split at hb
              · rename_i hl
                rw [hl]
                simp
              · rename_i hl
                cases hb
                simp [hl]
          · cases hb
    · exact k.elim
  · exact k.elim⟩
theorem oc_deqP {X : Cx} {W : WX} (hu : X.A.units + 65 < cLine) : CmO X W .Eq gDEqP := ⟨_, op_deqX hu, simO_deqP id⟩
theorem oc_dneP {X : Cx} {W : WX} (hu : X.A.units + 65 < cLine) : CmO X W .NotEq gDNeP := ⟨_, op_dneX hu, simO_deqP not⟩
end Dn

namespace P_k15
open PySem PySem.Spec PyProof.Rows L2 Dn
noncomputable section
/-! what each def does -/
@[simp] theorem ne_0 : ((("numbers" : Str) = "kept") = False) := eq_false (by decide +kernel)
@[simp] theorem ne_1 : ((("way" : Str) = "kept") = False) := eq_false (by decide +kernel)
@[simp] theorem ne_2 : ((("drop" : Str) = "kept") = False) := eq_false (by decide +kernel)
@[simp] theorem ne_3 : ((("put" : Str) = "kept") = False) := eq_false (by decide +kernel)
@[simp] theorem ne_4 : ((("others" : Str) = "kept") = False) := eq_false (by decide +kernel)
@[simp] theorem ne_5 : ((("need" : Str) = "kept") = False) := eq_false (by decide +kernel)
def b_place_at (ca : Nat → Addr) : SF := (sSeq (sAsgG (eVar 0) (gTp 2 (gC (gN 2) (gC (gN 3) gN0)))) (sSeq (sIf (tfB (eOp gLt (eVar 1) (eVar 2))) (sRet (eC .non)) sNext) (sRet (eOp gIx (eVar 3) (eCB gMin2 (aCons (eOp gMinus (eVar 1) (eVar 2)) (aCons (eOp gMinus (eCB gLen (aCons (eVar 3) aNil)) (eC (.int 1))) aNil)))))))
def F_place_at (ca : Nat → Addr) : List D → Mu → Res D := runF 4 (b_place_at ca)
def b_last_time (ca : Nat → Addr) : SF := (sRet (eOp gMinus (eOp gAddA (eOp gIx (eVar 0) (eC (.int 0))) (eCB gLen (aCons (eOp gIx (eVar 0) (eC (.int 1))) aNil))) (eC (.int 1))))
def F_last_time (ca : Nat → Addr) : List D → Mu → Res D := runF 1 (b_last_time ca)
def b_meeting_word (ca : Nat → Addr) : SF := (sSeq (sIf (tfB (eOp gEq (eOp gIx (eVar 0) (eC (.int 0))) (eOp gIx (eVar 0) (eC (.int 1))))) (sRet (eC (.str "at"))) sNext) (sSeq (sIf (tfAnd (tfB (eOp gEq (eOp gIx (eVar 0) (eC (.int 0))) (eOp gIx (eVar 1) (eC (.int 1))))) (tfB (eOp gEq (eOp gIx (eVar 0) (eC (.int 1))) (eOp gIx (eVar 1) (eC (.int 0)))))) (sRet (eC (.str "through"))) sNext) (sRet (eC .non))))
def F_meeting_word (ca : Nat → Addr) : List D → Mu → Res D := runF 2 (b_meeting_word ca)
def b_first_meeting_L1 (ca : Nat → Addr) : SF := (sSeq (sAsg 4 (eTup (aCons (eCallM 2 (F_place_at ca) (aCons (eVar 0) (aCons (eVar 2) aNil))) (aCons (eCallM 2 (F_place_at ca) (aCons (eVar 1) (aCons (eVar 2) aNil))) aNil)))) (sSeq (sAsg 5 (eCallM 2 (F_meeting_word ca) (aCons (eVar 4) (aCons (eTup (aCons (eCallM 2 (F_place_at ca) (aCons (eVar 0) (aCons (eOp gAddA (eVar 2) (eC (.int 1))) aNil))) (aCons (eCallM 2 (F_place_at ca) (aCons (eVar 1) (aCons (eOp gAddA (eVar 2) (eC (.int 1))) aNil))) aNil))) aNil)))) (sSeq (sIf (tfOr (tfB (eOp gNotN (eVar 5) (eC .non))) (tfB (eOp gGe (eVar 2) (eVar 3)))) sBreak sNext) (sAug 2 (eC (.int 1)) (gI fun i j => .int (i + j))))))
def b_first_meeting_W1 (ca : Nat → Addr) : TF := (tfB (eC (.bl true)))
def b_first_meeting (ca : Nat → Addr) : SF := (sSeq (sAsg 2 (eCB gMax2 (aCons (eOp gIx (eVar 0) (eC (.int 0))) (aCons (eOp gIx (eVar 1) (eC (.int 0))) aNil)))) (sSeq (sAsg 3 (eCB gMax2 (aCons (eCallM 1 (F_last_time ca) (aCons (eVar 0) aNil)) (aCons (eCallM 1 (F_last_time ca) (aCons (eVar 1) aNil)) aNil)))) (sSeq (sWhile FUEL (b_first_meeting_W1 ca) (b_first_meeting_L1 ca)) (sSeq (sIf (tfB (eOp gIsN (eVar 5) (eC .non))) (sRet (eC .non)) sNext) (sRet (eTup (aCons (eVar 2) (aCons (eVar 5) aNil))))))))
def F_first_meeting (ca : Nat → Addr) : List D → Mu → Res D := runF 6 (b_first_meeting ca)
def b_meetings_L1 (ca : Nat → Addr) : SF := (sSeq (sAsg 6 (eCallM 2 (F_first_meeting ca) (aCons (eOp gDix (eVar 0) (eVar 4)) (aCons (eOp gDix (eVar 0) (eVar 5)) aNil)))) (sSeq (sIf (tfB (eOp gIsN (eVar 6) (eC .non))) sCont sNext) (sSeq (sAsgG (eVar 6) (gTp 2 (gC (gN 7) (gC (gN 8) gN0)))) (sDrop (eBM "list" gAppend (eVar 1) (aCons (eTup (aCons (eVar 7) (aCons (eVar 4) (aCons (eVar 5) (aCons (eVar 8) aNil))))) aNil))))))
def b_meetings_L2 (ca : Nat → Addr) : SF := (sFor (iAny (eSlice (eVar 2) (oSome (eOp gAddA (eVar 3) (eC (.int 1)))) oNone)) (gN 5) (b_meetings_L1 ca))
def b_meetings (ca : Nat → Addr) : SF := (sSeq (sAsg 1 (eNew aNil)) (sSeq (sAsg 2 (eCB gSortD (aCons (eVar 0) aNil))) (sSeq (sForE FUEL (aCons (eVar 2) aNil) (gTp 2 (gC (gN 3) (gC (gN 4) gN0))) (b_meetings_L2 ca)) (sRet (eCB gSortPN (aCons (eVar 1) aNil))))))
def F_meetings (ca : Nat → Addr) : List D → Mu → Res D := runF 9 (b_meetings ca)
def b_Book_init (ca : Nat → Addr) : SF := (sFldS ca [3] "kept" (eVar 0) eNewK)
def F_Book_init (ca : Nat → Addr) : List D → Mu → Res D := runF 1 (b_Book_init ca)
def b_Book_others_C1 (ca : Nat → Addr) : EF := (eTup (aCons (eVar 2) (aCons (eOp gDix (eFld ca [3] "kept" (eVar 0)) (eVar 2)) aNil)))
def b_Book_others_W1 (ca : Nat → Addr) : TF := (tfB (eOp gNe (eVar 2) (eVar 1)))
def b_Book_others (ca : Nat → Addr) : SF := (sRet (eLc (iAny (eCB gSortD (aCons (eFld ca [3] "kept" (eVar 0)) aNil))) (gN 2) (b_Book_others_W1 ca) (b_Book_others_C1 ca) [2]))
def F_Book_others (ca : Nat → Addr) : List D → Mu → Res D := runF 3 (b_Book_others ca)
def b_Book_put_L1 (ca : Nat → Addr) : SF := (sIf (tfB (eOp gNotN (eCallM 2 (F_first_meeting ca) (aCons (eVar 2) (aCons (eVar 4) aNil))) (eC .non))) (sRaiseF ca 2 "other" (eVar 3)) sNext)
def b_Book_put (ca : Nat → Addr) : SF := (sSeq (sFor (iAny (eMeth ca 3 2 "others" (F_Book_others ca) (eVar 0) (aCons (eVar 1) aNil))) (gTp 2 (gC (gN 3) (gC (gN 4) gN0))) (b_Book_put_L1 ca)) (sAsgG (eVar 2) (gDSet (eFld ca [3] "kept" (eVar 0)) (eVar 1))))
def F_Book_put (ca : Nat → Addr) : List D → Mu → Res D := runF 5 (b_Book_put ca)
def b_Book_need (ca : Nat → Addr) : SF := (sIf (tfB (eOp gDNotIn (eVar 1) (eFld ca [3] "kept" (eVar 0)))) (sRaise ca 1) sNext)
def F_Book_need (ca : Nat → Addr) : List D → Mu → Res D := runF 2 (b_Book_need ca)
def b_Book_drop (ca : Nat → Addr) : SF := (sSeq (sDrop (eMethX ca 3 2 "need" (F_Book_need ca) (eVar 0) (aCons (eVar 1) aNil))) (sDrop (eBM "dict" gPop1 (eFld ca [3] "kept" (eVar 0)) (aCons (eVar 1) aNil))))
def F_Book_drop (ca : Nat → Addr) : List D → Mu → Res D := runF 2 (b_Book_drop ca)
def b_Book_way (ca : Nat → Addr) : SF := (sSeq (sDrop (eMethX ca 3 2 "need" (F_Book_need ca) (eVar 0) (aCons (eVar 1) aNil))) (sRet (eOp gDix (eFld ca [3] "kept" (eVar 0)) (eVar 1))))
def F_Book_way (ca : Nat → Addr) : List D → Mu → Res D := runF 2 (b_Book_way ca)
def b_Book_numbers (ca : Nat → Addr) : SF := (sRet (eCB gSortD (aCons (eFld ca [3] "kept" (eVar 0)) aNil)))
def F_Book_numbers (ca : Nat → Addr) : List D → Mu → Res D := runF 1 (b_Book_numbers ca)
def b_l_cell_at (ca : Nat → Addr) : SF := (sSeq (sIf (tfB (eOp gLt (eVar 1) (eCB gLen (aCons (eVar 0) aNil)))) (sRet (eOp gIx (eVar 0) (eVar 1))) sNext) (sRet (eC (.int 0))))
def F_l_cell_at (ca : Nat → Addr) : List D → Mu → Res D := runF 2 (b_l_cell_at ca)
def b_l_mixed (ca : Nat → Addr) : SF := (sSeq (sAsg 2 (eOp gAddA (eOp gAddA (eVar 0) (eOp gMulA (eC (.int 7919)) (eVar 1))) (eC (.int 3)))) (sRet (eOp gMod (eOp gMulA (eOp gMod (eOp gMulA (eVar 2) (eVar 2)) (eC (.int 2147483647))) (eC (.int 48271))) (eC (.int 2147483647)))))
def F_l_mixed (ca : Nat → Addr) : List D → Mu → Res D := runF 3 (b_l_mixed ca)
def b_l_whole (ca : Nat → Addr) : SF := (sRet (eT (tfAnd (tfB (eCB gIsi (aCons (eVar 0) (aCons (eC (.raw (.ty "int"))) aNil)))) (tfB (eT (tfNot (tfB (eCB gIsi (aCons (eVar 0) (aCons (eC (.raw (.ty "bool"))) aNil))))))))))
def F_l_whole (ca : Nat → Addr) : List D → Mu → Res D := runF 1 (b_l_whole ca)
def b_l_rows_L1 (ca : Nat → Addr) : SF := (sDrop (eBM "list" gAppend (eVar 2) (aCons (eOp gIx (eVar 2) (eUn gNeg (eC (.int 1)))) aNil)))
def b_l_rows_W1 (ca : Nat → Addr) : TF := (tfB (eOp gLe (eCB gLen (aCons (eVar 2) aNil)) (eVar 1)))
def b_l_rows (ca : Nat → Addr) : SF := (sSeq (sAsg 2 (eOp gCatN (eOp gMulA (eLst (aCons (eC .non) aNil)) (eOp gIx (eVar 0) (eC (.int 0)))) (eCB gList (aCons (eOp gIx (eVar 0) (eC (.int 1))) aNil)))) (sSeq (sWhile FUEL (b_l_rows_W1 ca) (b_l_rows_L1 ca)) (sRet (eVar 2))))
def F_l_rows (ca : Nat → Addr) : List D → Mu → Res D := runF 3 (b_l_rows ca)
def b_l_meeting_L1 (ca : Nat → Addr) : SF := (sSeq (sIf (tfOr (tfB (eOp gIsN (eOp gIx (eVar 3) (eVar 5)) (eC .non))) (tfB (eOp gIsN (eOp gIx (eVar 4) (eVar 5)) (eC .non)))) sCont sNext) (sSeq (sIf (tfB (eOp gEq (eOp gIx (eVar 3) (eVar 5)) (eOp gIx (eVar 4) (eVar 5)))) (sRet (eTup (aCons (eVar 5) (aCons (eC (.str "at")) aNil)))) sNext) (sIf (tfAnd (tfB (eOp gEq (eOp gIx (eVar 3) (eVar 5)) (eOp gIx (eVar 4) (eOp gAddA (eVar 5) (eC (.int 1)))))) (tfB (eOp gEq (eOp gIx (eVar 4) (eVar 5)) (eOp gIx (eVar 3) (eOp gAddA (eVar 5) (eC (.int 1))))))) (sRet (eTup (aCons (eVar 5) (aCons (eC (.str "through")) aNil)))) sNext)))
def b_l_meeting (ca : Nat → Addr) : SF := (sSeq (sAsg 2 (eOp gAddA (eC (.int 4)) (eCB gMax2 (aCons (eOp gAddA (eOp gIx (eVar 0) (eC (.int 0))) (eCB gLen (aCons (eOp gIx (eVar 0) (eC (.int 1))) aNil))) (aCons (eOp gAddA (eOp gIx (eVar 1) (eC (.int 0))) (eCB gLen (aCons (eOp gIx (eVar 1) (eC (.int 1))) aNil))) aNil))))) (sSeq (sAsg 3 (eCall 2 (F_l_rows ca) (aCons (eVar 0) (aCons (eVar 2) aNil)))) (sSeq (sAsg 4 (eCall 2 (F_l_rows ca) (aCons (eVar 1) (aCons (eVar 2) aNil)))) (sSeq (sFor (iRange1 (aCons (eVar 2) aNil)) (gN 5) (b_l_meeting_L1 ca)) (sRet (eC .non))))))
def F_l_meeting (ca : Nat → Addr) : List D → Mu → Res D := runF 6 (b_l_meeting ca)
def b_l_drawn_way_L1 (ca : Nat → Addr) : SF := (sSeq (sDrop (eBM "list" gAppend (eVar 4) (aCons (eVar 3) aNil))) (sSeq (sAsg 6 (eCall 2 (F_l_mixed ca) (aCons (eVar 0) (aCons (eVar 5) aNil)))) (sIf (tfB (eOp gEq (eOp gMod (eVar 6) (eC (.int 2))) (eC (.int 1)))) (sAsg 3 (eOp gMod (eOp gAddA (eVar 3) (eOp gIx (eLst (aCons (eC (.int 1)) (aCons (eOp gMinus (eVar 1) (eC (.int 1))) aNil))) (eOp gMod (eOp gDiv (eVar 6) (eC (.int 2))) (eC (.int 2))))) (eVar 1))) (sIf (tfB (eOp gEq (eOp gMod (eVar 6) (eC (.int 8))) (eC (.int 0)))) (sAsg 3 (eOp gMod (eOp gDiv (eVar 6) (eC (.int 8))) (eVar 1))) sNext))))
def b_l_drawn_way (ca : Nat → Addr) : SF := (sSeq (sAsg 2 (eOp gAddA (eC (.int 1)) (eOp gMod (eVar 0) (eC (.int 7))))) (sSeq (sAsg 3 (eOp gMod (eOp gDiv (eVar 0) (eC (.int 7))) (eVar 1))) (sSeq (sAsg 4 (eNew aNil)) (sSeq (sFor (iRange1 (aCons (eVar 2) aNil)) (gN 5) (b_l_drawn_way_L1 ca)) (sRet (eTup (aCons (eOp gMod (eOp gDiv (eOp gDiv (eVar 0) (eC (.int 7))) (eVar 1)) (eC (.int 9))) (aCons (eCB gTuple (aCons (eVar 4) aNil)) aNil))))))))
def F_l_drawn_way (ca : Nat → Addr) : List D → Mu → Res D := runF 7 (b_l_drawn_way ca)
def b_l_ways_by_L1 (ca : Nat → Addr) : SF := (sSeq (sAsg 5 (eCall 2 (F_l_mixed ca) (aCons (eCall 2 (F_l_cell_at ca) (aCons (eVar 0) (aCons (eOp gAddA (eC (.int 2)) (eOp gMod (eVar 4) (eC (.int 7)))) aNil))) (aCons (eVar 4) aNil)))) (sAsgG (eCall 2 (F_l_drawn_way ca) (aCons (eOp gDiv (eVar 5) (eC (.int 2))) (aCons (eVar 2) aNil))) (gDSet (eVar 3) (eOp gIx (eLst (aCons (eOp gMulA (eC (.int 3)) (eVar 4)) (aCons (eOp gMinus (eOp gPow (eC (.int 10)) (eC (.int 6))) (eVar 4)) aNil))) (eOp gMod (eVar 5) (eC (.int 2)))))))
def b_l_ways_by (ca : Nat → Addr) : SF := (sSeq (sAsg 1 (eOp gMod (eCall 2 (F_l_cell_at ca) (aCons (eVar 0) (aCons (eC (.int 0)) aNil))) (eC (.int 8)))) (sSeq (sIf (tfB (eOp gEq (eOp gMod (eOp gDiv (eCall 2 (F_l_cell_at ca) (aCons (eVar 0) (aCons (eC (.int 0)) aNil))) (eC (.int 8))) (eC (.int 9))) (eC (.int 1)))) (sAsg 1 (eOp gAddA (eC (.int 15)) (eOp gMod (eOp gDiv (eCall 2 (F_l_cell_at ca) (aCons (eVar 0) (aCons (eC (.int 0)) aNil))) (eC (.int 72))) (eC (.int 6))))) sNext) (sSeq (sAsg 2 (eOp gIx (eLst (aCons (eC (.int 4)) (aCons (eC (.int 7)) (aCons (eC (.int 14)) aNil)))) (eOp gMod (eCall 2 (F_l_cell_at ca) (aCons (eVar 0) (aCons (eC (.int 1)) aNil))) (eC (.int 3))))) (sSeq (sAsg 3 eNewK) (sSeq (sFor (iRange1 (aCons (eVar 1) aNil)) (gN 4) (b_l_ways_by_L1 ca)) (sRet (eVar 3)))))))
def F_l_ways_by (ca : Nat → Addr) : List D → Mu → Res D := runF 6 (b_l_ways_by ca)
def b_l_due_L1 (ca : Nat → Addr) : SF := (sSeq (sAsg 4 (eC .non)) (sSeq (sIf (tfB (eOp gLt (eVar 2) (eVar 3))) (sAsg 4 (eCall 2 (F_l_meeting ca) (aCons (eOp gDix (eVar 0) (eVar 2)) (aCons (eOp gDix (eVar 0) (eVar 3)) aNil)))) sNext) (sIf (tfB (eOp gNotN (eVar 4) (eC .non))) (sDrop (eBM "list" gAppend (eVar 1) (aCons (eTup (aCons (eOp gIx (eVar 4) (eC (.int 0))) (aCons (eVar 2) (aCons (eVar 3) (aCons (eOp gIx (eVar 4) (eC (.int 1))) aNil))))) aNil))) sNext)))
def b_l_due_L2 (ca : Nat → Addr) : SF := (sForKL (eVar 0) (gN 3) (b_l_due_L1 ca))
def b_l_due (ca : Nat → Addr) : SF := (sSeq (sAsg 1 (eNew aNil)) (sSeq (sForK .keys (eVar 0) (gN 2) (b_l_due_L2 ca)) (sRet (eCB gSortP (aCons (eVar 1) aNil)))))
def F_l_due (ca : Nat → Addr) : List D → Mu → Res D := runF 5 (b_l_due ca)
def b_l_are_C1 (ca : Nat → Addr) : EF := (eCallM 1 (F_l_whole ca) (aCons (eVar 3) aNil))
def b_l_are_L1 (ca : Nat → Addr) : SF := (sIf (tfOr (tfNot (tfB (eCB gIsi (aCons (eVar 2) (aCons (eC (.raw (.ty "tuple"))) aNil))))) (tfNot (tfB (eCB gAll (aCons (eLc (iAny (eSlice (eVar 2) oNone (oSome (eC (.int 3))))) (gN 3) tfYes (b_l_are_C1 ca) [3]) aNil))))) (sRet (eC (.bl false))) sNext)
def b_l_are (ca : Nat → Addr) : SF := (sSeq (sIf (tfOr (tfNot (tfB (eCB gIsi (aCons (eVar 0) (aCons (eC (.raw (.ty "list"))) aNil))))) (tfB (eOp gNe (eVar 0) (eVar 1)))) (sRet (eC (.bl false))) sNext) (sSeq (sForC FUEL (eVar 0) (gN 2) (b_l_are_L1 ca)) (sRet (eC (.bl true)))))
def F_l_are (ca : Nat → Addr) : List D → Mu → Res D := runF 4 (b_l_are ca)
def b_l_never_C1 (ca : Nat → Addr) : EF := (eOp gAddA (eOp gIx (eVar 2) (eC (.int 0))) (eCB gLen (aCons (eOp gIx (eVar 2) (eC (.int 1))) aNil)))
def b_l_never_C2 (ca : Nat → Addr) : EF := (eCall 2 (F_l_rows ca) (aCons (eVar 2) (aCons (eVar 1) aNil)))
def b_l_never_C3 (ca : Nat → Addr) : EF := (eOp gIx (eVar 6) (eVar 4))
def b_l_never_W1 (ca : Nat → Addr) : TF := (tfB (eOp gNotN (eOp gIx (eVar 6) (eVar 4)) (eC .non)))
def b_l_never_C4 (ca : Nat → Addr) : EF := (eTup (aCons (eOp gIx (eVar 6) (eVar 4)) (aCons (eOp gIx (eVar 6) (eOp gAddA (eVar 4) (eC (.int 1)))) aNil)))
def b_l_never_W2 (ca : Nat → Addr) : TF := (tfB (eOp gNe (eOp gIx (eVar 6) (eVar 4)) (eOp gIx (eVar 6) (eOp gAddA (eVar 4) (eC (.int 1))))))
def b_l_never_C5 (ca : Nat → Addr) : EF := (eVar 8)
def b_l_never_W3 (ca : Nat → Addr) : TF := (tfB (eOp (gInL false) (eTup (aCons (eOp gIx (eVar 8) (eC (.int 1))) (aCons (eOp gIx (eVar 8) (eC (.int 0))) aNil))) (eVar 7)))
def b_l_never_L1 (ca : Nat → Addr) : SF := (sSeq (sAsg 5 (eLc (iAny (eVar 3)) (gN 6) (b_l_never_W1 ca) (b_l_never_C3 ca) [6])) (sSeq (sAsg 7 (eLc (iAny (eVar 3)) (gN 6) (b_l_never_W2 ca) (b_l_never_C4 ca) [6])) (sIf (tfOr (tfB (eOp gLt (eLenSet (eVar 5)) (eCB gLen (aCons (eVar 5) aNil)))) (tfB (eOp gNe (eLc (iAny (eVar 7)) (gN 8) (b_l_never_W3 ca) (b_l_never_C5 ca) [8]) (eLst aNil)))) (sRet (eC (.bl false))) sNext)))
def b_l_never (ca : Nat → Addr) : SF := (sSeq (sAsg 1 (eOp gAddA (eC (.int 3)) (eMaxDf (eLcK true finL (eVar 0) (gN 2) tfYes (b_l_never_C1 ca) [2]) (eC (.int 0))))) (sSeq (sAsg 3 (eLcK true finL (eVar 0) (gN 2) tfYes (b_l_never_C2 ca) [2])) (sSeq (sFor (iRange1 (aCons (eVar 1) aNil)) (gN 4) (b_l_never_L1 ca)) (sRet (eC (.bl true))))))
def F_l_never (ca : Nat → Addr) : List D → Mu → Res D := runF 9 (b_l_never ca)
def b_l_refused_L1 (ca : Nat → Addr) : SF := (sDrop (eMethX ca 3 3 "put" (F_Book_put ca) (eVar 0) (aCons (eVar 1) (aCons (eVar 2) aNil))))
def b_l_refused (ca : Nat → Addr) : SF := (sSeq (sTryAs ca (fun j => List.lookup j [(2, true), (1, false)]) 3 (b_l_refused_L1 ca) (fun a j => (sRet (eXF a j [2] "other" (eVar 3))))) (sRet (eC .non)))
def F_l_refused (ca : Nat → Addr) : List D → Mu → Res D := runF 4 (b_l_refused ca)
def b_l_put_in_C1 (ca : Nat → Addr) : EF := (eOp gMinus (eOp gAddA (eOp gIx (eVar 6) (eC (.int 1))) (eOp gIx (eVar 6) (eC (.int 2)))) (eVar 4))
def b_l_put_in_W1 (ca : Nat → Addr) : TF := (tfB (eOp gIn (eVar 4) (eSlice (eVar 6) (oSome (eC (.int 1))) (oSome (eC (.int 3))))))
def b_l_put_in_C2 (ca : Nat → Addr) : EF := (eVar 7)
def b_l_put_in_W2 (ca : Nat → Addr) : TF := (tfB (eOp gIn (eVar 7) (eMeth ca 3 1 "numbers" (F_Book_numbers ca) (eVar 0) aNil)))
def b_l_put_in_L1 (ca : Nat → Addr) : SF := (sSeq (sAsg 5 (eLc (iAny (eVar 3)) (gN 6) (b_l_put_in_W1 ca) (b_l_put_in_C1 ca) [6])) (sSeq (sAsg 5 (eLc (iAny (eVar 5)) (gN 7) (b_l_put_in_W2 ca) (b_l_put_in_C2 ca) [7])) (sIf (tfB (eOp gNe (eCallM 3 (F_l_refused ca) (aCons (eVar 0) (aCons (eVar 4) (aCons (eOp gDix (eVar 1) (eVar 4)) aNil)))) (eMinDf (eVar 5) (eC .non)))) (sRet (eC (.bl false))) sNext)))
def b_l_put_in (ca : Nat → Addr) : SF := (sSeq (sFor (iAny (eVar 2)) (gN 4) (b_l_put_in_L1 ca)) (sRet (eC (.bl true))))
def F_l_put_in (ca : Nat → Addr) : List D → Mu → Res D := runF 8 (b_l_put_in ca)
def b_law_C1 (ca : Nat → Addr) : EF := (eTup (aCons (eVar 8) (aCons (eMethX ca 3 2 "way" (F_Book_way ca) (eVar 5) (aCons (eVar 8) aNil)) aNil)))
def b_law_C2 (ca : Nat → Addr) : EF := (eVar 8)
def b_law_W1 (ca : Nat → Addr) : TF := (tfB (eOp gNe (eOp gDix (eVar 7) (eVar 8)) (eOp gDix (eVar 1) (eVar 8))))
def b_law_C3 (ca : Nat → Addr) : EF := (eVar 8)
def b_law_W2 (ca : Nat → Addr) : TF := (tfB (eOp gDNotIn (eVar 8) (eVar 7)))
def b_law_C4 (ca : Nat → Addr) : EF := (eTup (aCons (eVar 8) (aCons (eMethX ca 3 2 "way" (F_Book_way ca) (eVar 5) (aCons (eVar 8) aNil)) aNil)))
def b_law_T1 (ca : Nat → Addr) : SF := (sSeq (sIf (tfB (eOp gNe (eLcK false finL (eVar 7) (gN 8) (b_law_W1 ca) (b_law_C2 ca) [8]) (eLst aNil))) (sRet (eC (.bl false))) sNext) (sSeq (sAsg 9 (eLc (iAny (eVar 6)) (gN 8) (b_law_W2 ca) (b_law_C3 ca) [8])) (sSeq (sIf (tfAnd (tfB (eOp gDNe (eVar 7) eNewK)) (tfB (eOp gNe (eVar 9) (eLst aNil)))) (sSeq (sDrop (eMethX ca 3 2 "drop" (F_Book_drop ca) (eVar 5) (aCons (eOp gIx (eCB gSortD (aCons (eVar 7) aNil)) (eOp gMod (eCall 2 (F_l_cell_at ca) (aCons (eVar 0) (aCons (eC (.int 10)) aNil))) (eCB gDLen (aCons (eVar 7) aNil)))) aNil))) (sIf (tfNot (tfB (eCallM 4 (F_l_put_in ca) (aCons (eVar 5) (aCons (eVar 1) (aCons (eVar 9) (aCons (eVar 2) aNil))))))) (sRet (eC (.bl false))) sNext)) sNext) (sSeq (sAsg 7 (eCB gDictP (aCons (eLc (iAny (eMeth ca 3 1 "numbers" (F_Book_numbers ca) (eVar 5) aNil)) (gN 8) tfYes (b_law_C4 ca) [8]) aNil))) (sRet (eT (tfAnd (tfB (eOp gEq (eCallM 1 (F_meetings ca) (aCons (eVar 7) aNil)) (eLst aNil))) (tfB (eCallM 1 (F_l_never ca) (aCons (eVar 7) aNil))))))))))
def b_law_T2 (ca : Nat → Addr) : SF := (sSeq (sAsg 5 (eMake ca 3 1 (F_Book_init ca) aNil)) (sSeq (sAsg 6 (eStepL (eCB gSortD (aCons (eVar 1) aNil)) (eOp gIx (eLst (aCons (eC (.int 1)) (aCons (eUn gNeg (eC (.int 1))) aNil))) (eOp gMod (eCall 2 (F_l_cell_at ca) (aCons (eVar 0) (aCons (eC (.int 9)) aNil))) (eC (.int 2)))))) (sSeq (sIf (tfNot (tfB (eCallM 4 (F_l_put_in ca) (aCons (eVar 5) (aCons (eVar 1) (aCons (eVar 6) (aCons (eVar 2) aNil))))))) (sRet (eC (.bl false))) sNext) (sSeq (sAsg 7 (eCB gDictP (aCons (eLc (iAny (eMeth ca 3 1 "numbers" (F_Book_numbers ca) (eVar 5) aNil)) (gN 8) tfYes (b_law_C1 ca) [8]) aNil))) (sSeq (sIf (tfOr (tfB (eOp gNe (eCallM 1 (F_meetings ca) (aCons (eVar 7) aNil)) (eLst aNil))) (tfNot (tfB (eCallM 1 (F_l_never ca) (aCons (eVar 7) aNil))))) (sRet (eC (.bl false))) sNext) (b_law_T1 ca))))))
def b_law_T3 (ca : Nat → Addr) : SF := (sSeq (sAsg 3 (eCB gDictC (aCons (eVar 1) aNil))) (sSeq (sAsg 4 (eCallM 1 (F_meetings ca) (aCons (eVar 3) aNil))) (sSeq (sIf (tfOr (tfNot (tfB (eCallM 2 (F_l_are ca) (aCons (eVar 4) (aCons (eVar 2) aNil))))) (tfB (eOp gDNeP (eVar 3) (eVar 1)))) (sRet (eC (.bl false))) sNext) (sSeq (sDrop (eBM "list" gAppend (eVar 4) (aCons (eTup (aCons (eC (.int 0)) (aCons (eC (.int 0)) (aCons (eC (.int 0)) (aCons (eC (.str "at")) aNil))))) aNil))) (sSeq (sIf (tfNot (tfB (eCallM 2 (F_l_are ca) (aCons (eCallM 1 (F_meetings ca) (aCons (eVar 3) aNil)) (aCons (eVar 2) aNil))))) (sRet (eC (.bl false))) sNext) (b_law_T2 ca))))))
def b_law (ca : Nat → Addr) : SF := (sSeq (sAsg 1 (eCallM 1 (F_l_ways_by ca) (aCons (eVar 0) aNil))) (sSeq (sAsg 2 (eCallM 1 (F_l_due ca) (aCons (eVar 1) aNil))) (b_law_T3 ca)))
def F_law (ca : Nat → Addr) : List D → Mu → Res D := runF 10 (b_law ca)
end
end P_k15

namespace P_k15
open PySem PySem.Spec PyProof.Rows L2 Dn
/-! the text by places -/
def top (i : Nat) : Stmt := PySem.Challenge.pw_floorways_k15_whole_books_never_meet.main.body.getD i (.Pass ⟨0, 0, 0, 0⟩)
abbrev s_Meets_init : Stmt := inClass (top 4) 0
abbrev s_place_at : Stmt := top 6
abbrev s_last_time : Stmt := top 7
abbrev s_meeting_word : Stmt := top 8
abbrev s_first_meeting : Stmt := top 9
abbrev s_meetings : Stmt := top 11
abbrev s_Book_init : Stmt := inClass (top 13) 0
abbrev s_Book_others : Stmt := inClass (top 13) 1
abbrev s_Book_put : Stmt := inClass (top 13) 2
abbrev s_Book_need : Stmt := inClass (top 13) 3
abbrev s_Book_drop : Stmt := inClass (top 13) 4
abbrev s_Book_way : Stmt := inClass (top 13) 5
abbrev s_Book_numbers : Stmt := inClass (top 13) 6
abbrev s_l_cell_at : Stmt := top 15
abbrev s_l_mixed : Stmt := top 16
abbrev s_l_whole : Stmt := top 17
abbrev s_l_rows : Stmt := top 18
abbrev s_l_meeting : Stmt := top 19
abbrev s_l_drawn_way : Stmt := top 20
abbrev s_l_ways_by : Stmt := top 21
abbrev s_l_due : Stmt := top 22
abbrev s_l_are : Stmt := top 23
abbrev s_l_never : Stmt := top 24
abbrev s_l_refused : Stmt := top 25
abbrev s_l_put_in : Stmt := top 26
abbrev s_law : Stmt := top 27
/-! the facts of the top -/
structure Tx (K : PySem.W.Frag) (mg : Str → Option Value) (ad : Nat → Addr) (ca : Nat → Addr) (fd : Nat → FuncData) (tk : Nat → Tok) : Prop where
  f_Meets_init : Fun K "__init__" "Meets.__init__" s_Meets_init (ad 0) (fd 0)
  b_Meets_init : Binds K (fd 0) ["self", "other"] []
  f_place_at : Fun K "place_at" "place_at" s_place_at (ad 1) (fd 1)
  m_place_at : mg "place_at" = some (.ref (ad 1))
  b_place_at : Binds K (fd 1) ["way", "time"] []
  f_last_time : Fun K "last_time" "last_time" s_last_time (ad 2) (fd 2)
  m_last_time : mg "last_time" = some (.ref (ad 2))
  b_last_time : Binds K (fd 2) ["way"] []
  f_meeting_word : Fun K "meeting_word" "meeting_word" s_meeting_word (ad 3) (fd 3)
  m_meeting_word : mg "meeting_word" = some (.ref (ad 3))
  b_meeting_word : Binds K (fd 3) ["here", "there"] []
  f_first_meeting : Fun K "first_meeting" "first_meeting" s_first_meeting (ad 4) (fd 4)
  m_first_meeting : mg "first_meeting" = some (.ref (ad 4))
  b_first_meeting : Binds K (fd 4) ["one", "other"] []
  f_meetings : Fun K "meetings" "meetings" s_meetings (ad 5) (fd 5)
  m_meetings : mg "meetings" = some (.ref (ad 5))
  b_meetings : Binds K (fd 5) ["ways"] []
  f_Book_init : Fun K "__init__" "Book.__init__" s_Book_init (ad 6) (fd 6)
  b_Book_init : Binds K (fd 6) ["self"] []
  f_Book_others : Fun K "others" "Book.others" s_Book_others (ad 7) (fd 7)
  b_Book_others : Binds K (fd 7) ["self", "number"] []
  f_Book_put : Fun K "put" "Book.put" s_Book_put (ad 8) (fd 8)
  b_Book_put : Binds K (fd 8) ["self", "number", "way"] []
  f_Book_need : Fun K "need" "Book.need" s_Book_need (ad 9) (fd 9)
  b_Book_need : Binds K (fd 9) ["self", "number"] []
  f_Book_drop : Fun K "drop" "Book.drop" s_Book_drop (ad 10) (fd 10)
  b_Book_drop : Binds K (fd 10) ["self", "number"] []
  f_Book_way : Fun K "way" "Book.way" s_Book_way (ad 11) (fd 11)
  b_Book_way : Binds K (fd 11) ["self", "number"] []
  f_Book_numbers : Fun K "numbers" "Book.numbers" s_Book_numbers (ad 12) (fd 12)
  b_Book_numbers : Binds K (fd 12) ["self"] []
  f_l_cell_at : Fun K "_law_cell_at" "_law_cell_at" s_l_cell_at (ad 13) (fd 13)
  m_l_cell_at : mg "_law_cell_at" = some (.ref (ad 13))
  b_l_cell_at : Binds K (fd 13) ["_law_script", "_law_k"] []
  f_l_mixed : Fun K "_law_mixed" "_law_mixed" s_l_mixed (ad 14) (fd 14)
  m_l_mixed : mg "_law_mixed" = some (.ref (ad 14))
  b_l_mixed : Binds K (fd 14) ["_law_cell", "_law_k"] []
  f_l_whole : Fun K "_law_whole" "_law_whole" s_l_whole (ad 15) (fd 15)
  m_l_whole : mg "_law_whole" = some (.ref (ad 15))
  b_l_whole : Binds K (fd 15) ["_law_found"] []
  f_l_rows : Fun K "_law_rows" "_law_rows" s_l_rows (ad 16) (fd 16)
  m_l_rows : mg "_law_rows" = some (.ref (ad 16))
  b_l_rows : Binds K (fd 16) ["_law_way", "_law_end"] []
  f_l_meeting : Fun K "_law_meeting" "_law_meeting" s_l_meeting (ad 17) (fd 17)
  m_l_meeting : mg "_law_meeting" = some (.ref (ad 17))
  b_l_meeting : Binds K (fd 17) ["_law_one", "_law_other"] []
  f_l_drawn_way : Fun K "_law_drawn_way" "_law_drawn_way" s_l_drawn_way (ad 18) (fd 18)
  m_l_drawn_way : mg "_law_drawn_way" = some (.ref (ad 18))
  b_l_drawn_way : Binds K (fd 18) ["_law_cell", "_law_most"] []
  f_l_ways_by : Fun K "_law_ways_by" "_law_ways_by" s_l_ways_by (ad 19) (fd 19)
  m_l_ways_by : mg "_law_ways_by" = some (.ref (ad 19))
  b_l_ways_by : Binds K (fd 19) ["_law_script"] []
  f_l_due : Fun K "_law_due" "_law_due" s_l_due (ad 20) (fd 20)
  m_l_due : mg "_law_due" = some (.ref (ad 20))
  b_l_due : Binds K (fd 20) ["_law_ways"] []
  f_l_are : Fun K "_law_are" "_law_are" s_l_are (ad 21) (fd 21)
  m_l_are : mg "_law_are" = some (.ref (ad 21))
  b_l_are : Binds K (fd 21) ["_law_found", "_law_due_here"] []
  f_l_never : Fun K "_law_never" "_law_never" s_l_never (ad 22) (fd 22)
  m_l_never : mg "_law_never" = some (.ref (ad 22))
  b_l_never : Binds K (fd 22) ["_law_ways"] []
  f_l_refused : Fun K "_law_refused" "_law_refused" s_l_refused (ad 23) (fd 23)
  m_l_refused : mg "_law_refused" = some (.ref (ad 23))
  b_l_refused : Binds K (fd 23) ["_law_book", "_law_number", "_law_way"] []
  f_l_put_in : Fun K "_law_put_in" "_law_put_in" s_l_put_in (ad 24) (fd 24)
  m_l_put_in : mg "_law_put_in" = some (.ref (ad 24))
  b_l_put_in : Binds K (fd 24) ["_law_book", "_law_ways", "_law_order", "_law_due_here"] []
  f_law : Fun K "law" "law" s_law (ad 25) (fd 25)
  m_law : mg "law" = some (.ref (ad 25))
  b_law : Binds K (fd 25) ["_law_script"] []
  z_dict : mg "dict" = none
  z_sorted : mg "sorted" = none
  z_len : mg "len" = none
  z_enumerate : mg "enumerate" = none
  z_max : mg "max" = none
  z_min : mg "min" = none
  z_range : mg "range" = none
  z_tuple : mg "tuple" = none
  z_set : mg "set" = none
  z_list : mg "list" = none
  z_isinstance : mg "isinstance" = none
  z_all : mg "all" = none
  z_int : mg "int" = none
  z_bool : mg "bool" = none
  cl_Book : Cls K (ca 3)
  g_Book : mg "Book" = some (.ref (ca 3))
  mk_Book : Mk K (ca 3) (ad 6)
  g_FloorError : mg "FloorError" = some (.ref (ca 0))
  g_NoCarrier : mg "NoCarrier" = some (.ref (ca 1))
  g_Meets : mg "Meets" = some (.ref (ca 2))
  xr_NoCarrier : XrF K (ca 1)
  xc_Meets : XcF K (ca 2)
  sx_NoCarrier_Meets : PySem.W.subIn K (.ref (ca 1)) (.ref (ca 2)) = some false
  sx_Meets_Meets : PySem.W.subIn K (.ref (ca 2)) (.ref (ca 2)) = some true
  xi_Meets : XiF K (ca 2) (ad 0) "other"
  fi_FloorError : FiF K (ca 0)
  ec_Meets : ExcC K (ca 2)
  ec_NoCarrier : ExcC K (ca 1)
  na_Book_kept : NoAttr K (ca 3) "kept"
  me_Book_numbers : Meth K (ca 3) "numbers" (ad 12)
  me_Book_way : Meth K (ca 3) "way" (ad 11)
  me_Book_drop : Meth K (ca 3) "drop" (ad 10)
  me_Book_put : Meth K (ca 3) "put" (ad 8)
  me_Book_others : Meth K (ca 3) "others" (ad 7)
  me_Book_need : Meth K (ca 3) "need" (ad 9)
/-! each def keeps its promise -/
section
variable {P : Program} {w : World} {K : PySem.W.Frag} {mg : Str → Option Value} {base : Heap} {ad : Nat → Addr} {ca : Nat → Addr} {fd : Nat → FuncData} {tk : Nat → Tok}
theorem sc_Meets_init : FnScope ["self", "other"] ["self", "other"] (defScope s_Meets_init) := ⟨rfl, rfl, rfl, by decide +kernel, rfl, by decide +kernel, by decide +kernel⟩
theorem ok_Meets_init (T : Tx K mg ad ca fd tk) : FnOk P w K mg base CX0 1 (ad 0) (fd 0) ["self", "other"] (spI K (ca 2) "other") :=
  fnI T.f_Meets_init sc_Meets_init fun cdv A outer s H E => pss_cons (ps_expr (pe_finit rfl T.g_FloorError T.fi_FloorError (pa_cons (pv 0) (pa_cons pe_str pa_nil)))) (pss_one (ps_ost (pv 0) (pv 1)))
theorem sc_place_at : FnScope ["way", "time", "begin", "cells"] ["way", "time"] (defScope s_place_at) := ⟨rfl, rfl, rfl, by decide +kernel, rfl, by decide +kernel, by decide +kernel⟩
theorem ok_place_at (T : Tx K mg ad ca fd tk) : FnOk P w K mg base CX0 1 (ad 1) (fd 1) ["way", "time"] (spN K 2 (F_place_at ca)) :=
  fnN (N := ["way", "time", "begin", "cells"]) (b := (b_place_at ca)) T.f_place_at sc_place_at fun cdv A outer s H E hr => by
    exact (dss_cons (ds_asg (de_var 0) (dg_tup 2 rfl (dgs_cons (dg_n 2 sc_place_at.nd) (dgs_cons (dg_n 3 sc_place_at.nd) dgs_nil)))) (dss_cons (ds_if (dt_cmp oc_lt (de_var 1) (de_var 2)) (dss_one (ds_ret de_non)) dss_nil) (dss_one (ds_ret (de_ix (de_var 3) (de_cb (cb_min2 rfl) rfl T.z_min (by decide +kernel) (da_cons (de_op oo_sub (de_var 1) (de_var 2)) (da_cons (de_op oo_sub (de_cb (cb_len) rfl T.z_len (by decide +kernel) (da_cons (de_var 3) da_nil)) de_int) da_nil))))))))
theorem sc_last_time : FnScope ["way"] ["way"] (defScope s_last_time) := ⟨rfl, rfl, rfl, by decide +kernel, rfl, by decide +kernel, by decide +kernel⟩
theorem ok_last_time (T : Tx K mg ad ca fd tk) : FnOk P w K mg base CX0 1 (ad 2) (fd 2) ["way"] (spN K 1 (F_last_time ca)) :=
  fnN (N := ["way"]) (b := (b_last_time ca)) T.f_last_time sc_last_time fun cdv A outer s H E hr => by
    exact (dss_one (ds_ret (de_op oo_sub (de_op oo_addA (de_ix (de_var 0) de_int) (de_cb (cb_len) rfl T.z_len (by decide +kernel) (da_cons (de_ix (de_var 0) de_int) da_nil))) de_int)))
theorem sc_meeting_word : FnScope ["here", "there"] ["here", "there"] (defScope s_meeting_word) := ⟨rfl, rfl, rfl, by decide +kernel, rfl, by decide +kernel, by decide +kernel⟩
theorem ok_meeting_word (T : Tx K mg ad ca fd tk) : FnOk P w K mg base CX0 1 (ad 3) (fd 3) ["here", "there"] (spN K 2 (F_meeting_word ca)) :=
  fnN (N := ["here", "there"]) (b := (b_meeting_word ca)) T.f_meeting_word sc_meeting_word fun cdv A outer s H E hr => by
    exact (dss_cons (ds_if (dt_cmp (oc_eq hr.units) (de_ix (de_var 0) de_int) (de_ix (de_var 0) de_int)) (dss_one (ds_ret de_str)) dss_nil) (dss_cons (ds_if (dt_w (dw_and (dt_cmp (oc_eq hr.units) (de_ix (de_var 0) de_int) (de_ix (de_var 1) de_int)) (dw_and1 (dt_cmp (oc_eq hr.units) (de_ix (de_var 0) de_int) (de_ix (de_var 1) de_int))))) (dss_one (ds_ret de_str)) dss_nil) (dss_one (ds_ret de_non))))
theorem sc_first_meeting : FnScope ["one", "other", "time", "end", "here", "word"] ["one", "other"] (defScope s_first_meeting) := ⟨rfl, rfl, rfl, by decide +kernel, rfl, by decide +kernel, by decide +kernel⟩
theorem ok_first_meeting (T : Tx K mg ad ca fd tk) : FnOk P w K mg base CX0 2 (ad 4) (fd 4) ["one", "other"] (spN K 2 (F_first_meeting ca)) :=
  fnN (N := ["one", "other", "time", "end", "here", "word"]) (b := (b_first_meeting ca)) T.f_first_meeting sc_first_meeting fun cdv A outer s H E hr => by
    exact (dss_cons (ds_set 2 sc_first_meeting.nd (de_cb (cb_max2 rfl) rfl T.z_max (by decide +kernel) (da_cons (de_ix (de_var 0) de_int) (da_cons (de_ix (de_var 1) de_int) da_nil)))) (dss_cons (ds_set 3 sc_first_meeting.nd (de_cb (cb_max2 rfl) rfl T.z_max (by decide +kernel) (da_cons (de_callM (ok_last_time T) (hr.mono (by decide)) rfl T.m_last_time T.f_last_time.kp T.b_last_time (da_cons (de_var 0) da_nil)) (da_cons (de_callM (ok_last_time T) (hr.mono (by decide)) rfl T.m_last_time T.f_last_time.kp T.b_last_time (da_cons (de_var 1) da_nil)) da_nil)))) (dss_cons (ds_while FUEL PassesOwn.never (dt_val de_bl) (dss_cons (ds_set 4 sc_first_meeting.nd (de_tup (da_cons (de_callM (ok_place_at T) (hr.mono (by decide)) rfl T.m_place_at T.f_place_at.kp T.b_place_at (da_cons (de_var 0) (da_cons (de_var 2) da_nil))) (da_cons (de_callM (ok_place_at T) (hr.mono (by decide)) rfl T.m_place_at T.f_place_at.kp T.b_place_at (da_cons (de_var 1) (da_cons (de_var 2) da_nil))) da_nil)))) (dss_cons (ds_set 5 sc_first_meeting.nd (de_callM (ok_meeting_word T) (hr.mono (by decide)) rfl T.m_meeting_word T.f_meeting_word.kp T.b_meeting_word (da_cons (de_var 4) (da_cons (de_tup (da_cons (de_callM (ok_place_at T) (hr.mono (by decide)) rfl T.m_place_at T.f_place_at.kp T.b_place_at (da_cons (de_var 0) (da_cons (de_op oo_addA (de_var 2) de_int) da_nil))) (da_cons (de_callM (ok_place_at T) (hr.mono (by decide)) rfl T.m_place_at T.f_place_at.kp T.b_place_at (da_cons (de_var 1) (da_cons (de_op oo_addA (de_var 2) de_int) da_nil))) da_nil))) da_nil)))) (dss_cons (ds_if (dt_w (dw_or (dt_cmp oc_isnot (de_var 5) de_non) (dw_or1 (dt_cmp oc_ge (de_var 2) (de_var 3))))) (dss_one ds_break) dss_nil) (dss_one (ds_augAdd 2 sc_first_meeting.nd de_int)))))) (dss_cons (ds_if (dt_cmp oc_is (de_var 5) de_non) (dss_one (ds_ret de_non)) dss_nil) (dss_one (ds_ret (de_tup (da_cons (de_var 2) (da_cons (de_var 5) da_nil)))))))))
theorem sc_meetings : FnScope ["ways", "found", "some", "k", "one", "other", "pair", "time", "word"] ["ways"] (defScope s_meetings) := ⟨rfl, rfl, rfl, by decide +kernel, rfl, by decide +kernel, by decide +kernel⟩
theorem ok_meetings (T : Tx K mg ad ca fd tk) : FnOk P w K mg base CX0 3 (ad 5) (fd 5) ["ways"] (spN K 1 (F_meetings ca)) :=
  fnN (N := ["ways", "found", "some", "k", "one", "other", "pair", "time", "word"]) (b := (b_meetings ca)) T.f_meetings sc_meetings fun cdv A outer s H E hr => by
    exact (dss_cons (ds_set 1 sc_meetings.nd (de_new da_nil)) (dss_cons (ds_set 2 sc_meetings.nd (de_cb (cb_sortD rfl) rfl T.z_sorted (by decide +kernel) (da_cons (de_var 0) da_nil))) (dss_cons (ds_forE FUEL PassesOwn.never rfl rfl T.z_enumerate (da_cons (de_var 2) da_nil) (dg_tup 2 rfl (dgs_cons (dg_n 3 sc_meetings.nd) (dgs_cons (dg_n 4 sc_meetings.nd) dgs_nil))) (dss_one (ds_for PassesOwn.never rfl (di_any (de_slice (de_var 2) (do_some (de_op oo_addA (de_var 3) de_int)) do_none)) (dg_n 5 sc_meetings.nd) (dss_cons (ds_set 6 sc_meetings.nd (de_callM (ok_first_meeting T) (hr.mono (by decide)) rfl T.m_first_meeting T.f_first_meeting.kp T.b_first_meeting (da_cons (de_dix (hu1 hr.units) (de_var 0) (de_var 4)) (da_cons (de_dix (hu1 hr.units) (de_var 0) (de_var 5)) da_nil)))) (dss_cons (ds_if (dt_cmp oc_is (de_var 6) de_non) (dss_one ds_cont) dss_nil) (dss_cons (ds_asg (de_var 6) (dg_tup 2 rfl (dgs_cons (dg_n 7 sc_meetings.nd) (dgs_cons (dg_n 8 sc_meetings.nd) dgs_nil)))) (dss_one (ds_expr (de_bm PySem.F.plainAttrs_list PySem.F.slot_list_append PySem.F.type_list_append mo_append (de_var 1) (da_cons (de_tup (da_cons (de_var 7) (da_cons (de_var 4) (da_cons (de_var 5) (da_cons (de_var 8) da_nil))))) da_nil)))))))))) (dss_one (ds_ret (de_cb (cb_sortPN hr.units) rfl T.z_sorted (by decide +kernel) (da_cons (de_var 1) da_nil)))))))
theorem sc_Book_init : FnScope ["self"] ["self"] (defScope s_Book_init) := ⟨rfl, rfl, rfl, by decide +kernel, rfl, by decide +kernel, by decide +kernel⟩
theorem ok_Book_init (T : Tx K mg ad ca fd tk) : FnOk P w K mg base CX0 1 (ad 6) (fd 6) ["self"] (spN K 1 (F_Book_init ca)) :=
  fnN (N := ["self"]) (b := (b_Book_init ca)) T.f_Book_init sc_Book_init fun cdv A outer s H E hr => by
    exact (dss_one (ds_fld [3] (allC ⟨T.cl_Book, T.na_Book_kept⟩ all0) (de_var 0) de_newK))
theorem sc_Book_others : FnScope ["self", "number", "other"] ["self", "number"] (defScope s_Book_others) := ⟨rfl, rfl, rfl, by decide +kernel, rfl, by decide +kernel, by decide +kernel⟩
theorem ok_Book_others (T : Tx K mg ad ca fd tk) : FnOk P w K mg base CX0 1 (ad 7) (fd 7) ["self", "number"] (spN K 2 (F_Book_others ca)) :=
  fnN (N := ["self", "number", "other"]) (b := (b_Book_others ca)) T.f_Book_others sc_Book_others fun cdv A outer s H E hr => by
    exact (dss_one (ds_ret (de_lcG (own := [("other", 2)]) fin_lc rfl sc_Book_others.nd (di_any (de_cb (cb_sortD rfl) rfl T.z_sorted (by decide +kernel) (da_cons (de_fld [3] (allC ⟨T.cl_Book, T.na_Book_kept⟩ all0) (de_var 0)) da_nil))) (blkOk_by (own := [("other", 2)]) (N := ["self", "number", "other"]) (sc := defScope s_Book_others) (by decide +kernel)) (fun _ _ _ _ _ => (dw1_n 2 sc_Book_others.nd)) (fun _ _ _ _ _ => (dts_one (dt_cmp (oc_ne hr.units) (de_var 2) (de_var 1)))) (fun _ _ _ _ _ => (de_tup (da_cons (de_var 2) (da_cons (de_dix (hu1 hr.units) (de_fld [3] (allC ⟨T.cl_Book, T.na_Book_kept⟩ all0) (de_var 0)) (de_var 2)) da_nil)))))))
theorem sc_Book_put : FnScope ["self", "number", "way", "other", "booked"] ["self", "number", "way"] (defScope s_Book_put) := ⟨rfl, rfl, rfl, by decide +kernel, rfl, by decide +kernel, by decide +kernel⟩
theorem ok_Book_put (T : Tx K mg ad ca fd tk) : FnOk P w K mg base (L2N.CX P w) 3 (ad 8) (fd 8) ["self", "number", "way"] (spX K 3 (F_Book_put ca)) :=
  fnXN (N := ["self", "number", "way", "other", "booked"]) (b := (b_Book_put ca)) T.f_Book_put sc_Book_put fun cdv A outer s H E hr => by
    exact (dss_cons (ds_for PassesOwn.leaving rfl (di_any (de_meth 3 T.cl_Book T.me_Book_others (ok_Book_others T) (hr.mono (by decide)) T.b_Book_others (de_var 0) (da_cons (de_var 1) da_nil))) (dg_tup 2 rfl (dgs_cons (dg_n 3 sc_Book_put.nd) (dgs_cons (dg_n 4 sc_Book_put.nd) dgs_nil))) (dss_one (ds_if (dt_cmp oc_isnot (de_callM (ok_first_meeting T) (hr.mono (by decide)) rfl T.m_first_meeting T.f_first_meeting.kp T.b_first_meeting (da_cons (de_var 2) (da_cons (de_var 4) da_nil))) de_non) (dss_one (ds_raiseF 2 rfl (L2N.takes_of rfl rfl rfl rfl) T.xi_Meets.ox T.xi_Meets.no T.xi_Meets.it T.xi_Meets.ty (ok_Meets_init T) (hr.mono (by decide)) T.b_Meets_init rfl T.g_Meets (de_var 3))) dss_nil))) (dss_one (ds_asg (de_var 2) (dg_dset (hu1 hr.units) (de_fld [3] (allC ⟨T.cl_Book, T.na_Book_kept⟩ all0) (de_var 0)) (de_var 1)))))
theorem sc_Book_need : FnScope ["self", "number"] ["self", "number"] (defScope s_Book_need) := ⟨rfl, rfl, rfl, by decide +kernel, rfl, by decide +kernel, by decide +kernel⟩
theorem ok_Book_need (T : Tx K mg ad ca fd tk) : FnOk P w K mg base (L2N.CX P w) 1 (ad 9) (fd 9) ["self", "number"] (spX K 2 (F_Book_need ca)) :=
  fnXN (N := ["self", "number"]) (b := (b_Book_need ca)) T.f_Book_need sc_Book_need fun cdv A outer s H E hr => by
    exact (dss_one (ds_if (dt_cmp (oc_dnotin (hu1 hr.units)) (de_var 1) (de_fld [3] (allC ⟨T.cl_Book, T.na_Book_kept⟩ all0) (de_var 0))) (dss_one (ds_raiseN 1 rfl (L2N.takes_of rfl rfl rfl rfl) (T.xr_NoCarrier.pmk T.g_NoCarrier rfl))) dss_nil))
theorem sc_Book_drop : FnScope ["self", "number"] ["self", "number"] (defScope s_Book_drop) := ⟨rfl, rfl, rfl, by decide +kernel, rfl, by decide +kernel, by decide +kernel⟩
theorem ok_Book_drop (T : Tx K mg ad ca fd tk) : FnOk P w K mg base (L2N.CX P w) 2 (ad 10) (fd 10) ["self", "number"] (spX K 2 (F_Book_drop ca)) :=
  fnXN (N := ["self", "number"]) (b := (b_Book_drop ca)) T.f_Book_drop sc_Book_drop fun cdv A outer s H E hr => by
    exact (dss_cons (ds_expr (de_methXN 3 T.cl_Book T.me_Book_need (L2N.takes_of rfl rfl rfl rfl) (ok_Book_need T) (hr.mono (by decide)) T.b_Book_need (de_var 0) (da_cons (de_var 1) da_nil))) (dss_one (ds_expr (de_bm PySem.F.plainAttrs_dict PySem.F.slot_dict_pop PySem.F.type_dict_pop mo_pop1 (de_fld [3] (allC ⟨T.cl_Book, T.na_Book_kept⟩ all0) (de_var 0)) (da_cons (de_var 1) da_nil)))))
theorem sc_Book_way : FnScope ["self", "number"] ["self", "number"] (defScope s_Book_way) := ⟨rfl, rfl, rfl, by decide +kernel, rfl, by decide +kernel, by decide +kernel⟩
theorem ok_Book_way (T : Tx K mg ad ca fd tk) : FnOk P w K mg base (L2N.CX P w) 2 (ad 11) (fd 11) ["self", "number"] (spX K 2 (F_Book_way ca)) :=
  fnXN (N := ["self", "number"]) (b := (b_Book_way ca)) T.f_Book_way sc_Book_way fun cdv A outer s H E hr => by
    exact (dss_cons (ds_expr (de_methXN 3 T.cl_Book T.me_Book_need (L2N.takes_of rfl rfl rfl rfl) (ok_Book_need T) (hr.mono (by decide)) T.b_Book_need (de_var 0) (da_cons (de_var 1) da_nil))) (dss_one (ds_ret (de_dix (hu1 hr.units) (de_fld [3] (allC ⟨T.cl_Book, T.na_Book_kept⟩ all0) (de_var 0)) (de_var 1)))))
theorem sc_Book_numbers : FnScope ["self"] ["self"] (defScope s_Book_numbers) := ⟨rfl, rfl, rfl, by decide +kernel, rfl, by decide +kernel, by decide +kernel⟩
theorem ok_Book_numbers (T : Tx K mg ad ca fd tk) : FnOk P w K mg base CX0 1 (ad 12) (fd 12) ["self"] (spN K 1 (F_Book_numbers ca)) :=
  fnN (N := ["self"]) (b := (b_Book_numbers ca)) T.f_Book_numbers sc_Book_numbers fun cdv A outer s H E hr => by
    exact (dss_one (ds_ret (de_cb (cb_sortD rfl) rfl T.z_sorted (by decide +kernel) (da_cons (de_fld [3] (allC ⟨T.cl_Book, T.na_Book_kept⟩ all0) (de_var 0)) da_nil))))
theorem sc_l_cell_at : FnScope ["_law_script", "_law_k"] ["_law_script", "_law_k"] (defScope s_l_cell_at) := ⟨rfl, rfl, rfl, by decide +kernel, rfl, by decide +kernel, by decide +kernel⟩
theorem ok_l_cell_at (T : Tx K mg ad ca fd tk) : FnOk P w K mg base CX0 1 (ad 13) (fd 13) ["_law_script", "_law_k"] (spN K 2 (F_l_cell_at ca)) :=
  fnN (N := ["_law_script", "_law_k"]) (b := (b_l_cell_at ca)) T.f_l_cell_at sc_l_cell_at fun cdv A outer s H E hr => by
    exact (dss_cons (ds_if (dt_cmp oc_lt (de_var 1) (de_cb (cb_len) rfl T.z_len (by decide +kernel) (da_cons (de_var 0) da_nil))) (dss_one (ds_ret (de_ix (de_var 0) (de_var 1)))) dss_nil) (dss_one (ds_ret de_int)))
theorem sc_l_mixed : FnScope ["_law_cell", "_law_k", "_law_number"] ["_law_cell", "_law_k"] (defScope s_l_mixed) := ⟨rfl, rfl, rfl, by decide +kernel, rfl, by decide +kernel, by decide +kernel⟩
theorem ok_l_mixed (T : Tx K mg ad ca fd tk) : FnOk P w K mg base CX0 1 (ad 14) (fd 14) ["_law_cell", "_law_k"] (spN K 2 (F_l_mixed ca)) :=
  fnN (N := ["_law_cell", "_law_k", "_law_number"]) (b := (b_l_mixed ca)) T.f_l_mixed sc_l_mixed fun cdv A outer s H E hr => by
    exact (dss_cons (ds_set 2 sc_l_mixed.nd (de_op oo_addA (de_op oo_addA (de_var 0) (de_op oo_mulA de_int (de_var 1))) de_int)) (dss_one (ds_ret (de_op oo_mod (de_op oo_mulA (de_op oo_mod (de_op oo_mulA (de_var 2) (de_var 2)) de_int) de_int) de_int))))
theorem sc_l_whole : FnScope ["_law_found"] ["_law_found"] (defScope s_l_whole) := ⟨rfl, rfl, rfl, by decide +kernel, rfl, by decide +kernel, by decide +kernel⟩
theorem ok_l_whole (T : Tx K mg ad ca fd tk) : FnOk P w K mg base CX0 1 (ad 15) (fd 15) ["_law_found"] (spN K 1 (F_l_whole ca)) :=
  fnN (N := ["_law_found"]) (b := (b_l_whole ca)) T.f_l_whole sc_l_whole fun cdv A outer s H E hr => by
    exact (dss_one (ds_ret (de_and (de_cb (cb_isi) rfl T.z_isinstance (by decide +kernel) (da_cons (de_var 0) (da_cons (de_ty (T := "int") rfl T.z_int (by decide +kernel)) da_nil))) (de_one (de_not (de_cb (cb_isi) rfl T.z_isinstance (by decide +kernel) (da_cons (de_var 0) (da_cons (de_ty (T := "bool") rfl T.z_bool (by decide +kernel)) da_nil))))))))
theorem sc_l_rows : FnScope ["_law_way", "_law_end", "_law_found"] ["_law_way", "_law_end"] (defScope s_l_rows) := ⟨rfl, rfl, rfl, by decide +kernel, rfl, by decide +kernel, by decide +kernel⟩
theorem ok_l_rows (T : Tx K mg ad ca fd tk) : FnOk P w K mg base CX0 1 (ad 16) (fd 16) ["_law_way", "_law_end"] (spN K 2 (F_l_rows ca)) :=
  fnN (N := ["_law_way", "_law_end", "_law_found"]) (b := (b_l_rows ca)) T.f_l_rows sc_l_rows fun cdv A outer s H E hr => by
    exact (dss_cons (ds_set 2 sc_l_rows.nd (de_op oo_addN (de_op oo_mulA (de_lst (da_cons de_non da_nil)) (de_ix (de_var 0) de_int)) (de_ct cb_list rfl T.z_list (by decide +kernel) (da_cons (de_ix (de_var 0) de_int) da_nil)))) (dss_cons (ds_while FUEL PassesOwn.never (dt_cmp oc_le (de_cb (cb_len) rfl T.z_len (by decide +kernel) (da_cons (de_var 2) da_nil)) (de_var 1)) (dss_one (ds_expr (de_bm PySem.F.plainAttrs_list PySem.F.slot_list_append PySem.F.type_list_append mo_append (de_var 2) (da_cons (de_ix (de_var 2) (de_un ou_neg de_int)) da_nil))))) (dss_one (ds_ret (de_var 2)))))
theorem sc_l_meeting : FnScope ["_law_one", "_law_other", "_law_end", "_law_mine", "_law_yours", "_law_time"] ["_law_one", "_law_other"] (defScope s_l_meeting) := ⟨rfl, rfl, rfl, by decide +kernel, rfl, by decide +kernel, by decide +kernel⟩
theorem ok_l_meeting (T : Tx K mg ad ca fd tk) : FnOk P w K mg base CX0 2 (ad 17) (fd 17) ["_law_one", "_law_other"] (spN K 2 (F_l_meeting ca)) :=
  fnN (N := ["_law_one", "_law_other", "_law_end", "_law_mine", "_law_yours", "_law_time"]) (b := (b_l_meeting ca)) T.f_l_meeting sc_l_meeting fun cdv A outer s H E hr => by
    exact (dss_cons (ds_set 2 sc_l_meeting.nd (de_op oo_addA de_int (de_cb (cb_max2 rfl) rfl T.z_max (by decide +kernel) (da_cons (de_op oo_addA (de_ix (de_var 0) de_int) (de_cb (cb_len) rfl T.z_len (by decide +kernel) (da_cons (de_ix (de_var 0) de_int) da_nil))) (da_cons (de_op oo_addA (de_ix (de_var 1) de_int) (de_cb (cb_len) rfl T.z_len (by decide +kernel) (da_cons (de_ix (de_var 1) de_int) da_nil))) da_nil))))) (dss_cons (ds_set 3 sc_l_meeting.nd (de_call (ok_l_rows T) (hr.mono (by decide)) rfl T.m_l_rows T.f_l_rows.kp T.b_l_rows (da_cons (de_var 0) (da_cons (de_var 2) da_nil)))) (dss_cons (ds_set 4 sc_l_meeting.nd (de_call (ok_l_rows T) (hr.mono (by decide)) rfl T.m_l_rows T.f_l_rows.kp T.b_l_rows (da_cons (de_var 1) (da_cons (de_var 2) da_nil)))) (dss_cons (ds_for PassesOwn.never rfl (di_range1 rfl T.z_range (da_cons (de_var 2) da_nil)) (dg_n 5 sc_l_meeting.nd) (dss_cons (ds_if (dt_w (dw_or (dt_cmp oc_is (de_ix (de_var 3) (de_var 5)) de_non) (dw_or1 (dt_cmp oc_is (de_ix (de_var 4) (de_var 5)) de_non)))) (dss_one ds_cont) dss_nil) (dss_cons (ds_if (dt_cmp (oc_eq hr.units) (de_ix (de_var 3) (de_var 5)) (de_ix (de_var 4) (de_var 5))) (dss_one (ds_ret (de_tup (da_cons (de_var 5) (da_cons de_str da_nil))))) dss_nil) (dss_one (ds_if (dt_w (dw_and (dt_cmp (oc_eq hr.units) (de_ix (de_var 3) (de_var 5)) (de_ix (de_var 4) (de_op oo_addA (de_var 5) de_int))) (dw_and1 (dt_cmp (oc_eq hr.units) (de_ix (de_var 4) (de_var 5)) (de_ix (de_var 3) (de_op oo_addA (de_var 5) de_int)))))) (dss_one (ds_ret (de_tup (da_cons (de_var 5) (da_cons de_str da_nil))))) dss_nil))))) (dss_one (ds_ret de_non))))))
theorem sc_l_drawn_way : FnScope ["_law_cell", "_law_most", "_law_size", "_law_spot", "_law_cells", "_law_k", "_law_number"] ["_law_cell", "_law_most"] (defScope s_l_drawn_way) := ⟨rfl, rfl, rfl, by decide +kernel, rfl, by decide +kernel, by decide +kernel⟩
theorem ok_l_drawn_way (T : Tx K mg ad ca fd tk) : FnOk P w K mg base CX0 2 (ad 18) (fd 18) ["_law_cell", "_law_most"] (spN K 2 (F_l_drawn_way ca)) :=
  fnN (N := ["_law_cell", "_law_most", "_law_size", "_law_spot", "_law_cells", "_law_k", "_law_number"]) (b := (b_l_drawn_way ca)) T.f_l_drawn_way sc_l_drawn_way fun cdv A outer s H E hr => by
    exact (dss_cons (ds_set 2 sc_l_drawn_way.nd (de_op oo_addA de_int (de_op oo_mod (de_var 0) de_int))) (dss_cons (ds_set 3 sc_l_drawn_way.nd (de_op oo_mod (de_op oo_div (de_var 0) de_int) (de_var 1))) (dss_cons (ds_set 4 sc_l_drawn_way.nd (de_new da_nil)) (dss_cons (ds_for PassesOwn.never rfl (di_range1 rfl T.z_range (da_cons (de_var 2) da_nil)) (dg_n 5 sc_l_drawn_way.nd) (dss_cons (ds_expr (de_bm PySem.F.plainAttrs_list PySem.F.slot_list_append PySem.F.type_list_append mo_append (de_var 4) (da_cons (de_var 3) da_nil))) (dss_cons (ds_set 6 sc_l_drawn_way.nd (de_call (ok_l_mixed T) (hr.mono (by decide)) rfl T.m_l_mixed T.f_l_mixed.kp T.b_l_mixed (da_cons (de_var 0) (da_cons (de_var 5) da_nil)))) (dss_one (ds_if (dt_cmp (oc_eq hr.units) (de_op oo_mod (de_var 6) de_int) de_int) (dss_one (ds_set 3 sc_l_drawn_way.nd (de_op oo_mod (de_op oo_addA (de_var 3) (de_ix (de_lst (da_cons de_int (da_cons (de_op oo_sub (de_var 1) de_int) da_nil))) (de_op oo_mod (de_op oo_div (de_var 6) de_int) de_int))) (de_var 1)))) (dss_one (ds_if (dt_cmp (oc_eq hr.units) (de_op oo_mod (de_var 6) de_int) de_int) (dss_one (ds_set 3 sc_l_drawn_way.nd (de_op oo_mod (de_op oo_div (de_var 6) de_int) (de_var 1)))) dss_nil))))))) (dss_one (ds_ret (de_tup (da_cons (de_op oo_mod (de_op oo_div (de_op oo_div (de_var 0) de_int) (de_var 1)) de_int) (da_cons (de_ct cb_tuple rfl T.z_tuple (by decide +kernel) (da_cons (de_var 4) da_nil)) da_nil)))))))))
theorem sc_l_ways_by : FnScope ["_law_script", "_law_many", "_law_most", "_law_ways", "_law_k", "_law_cell"] ["_law_script"] (defScope s_l_ways_by) := ⟨rfl, rfl, rfl, by decide +kernel, rfl, by decide +kernel, by decide +kernel⟩
theorem ok_l_ways_by (T : Tx K mg ad ca fd tk) : FnOk P w K mg base CX0 3 (ad 19) (fd 19) ["_law_script"] (spN K 1 (F_l_ways_by ca)) :=
  fnN (N := ["_law_script", "_law_many", "_law_most", "_law_ways", "_law_k", "_law_cell"]) (b := (b_l_ways_by ca)) T.f_l_ways_by sc_l_ways_by fun cdv A outer s H E hr => by
    exact (dss_cons (ds_set 1 sc_l_ways_by.nd (de_op oo_mod (de_call (ok_l_cell_at T) (hr.mono (by decide)) rfl T.m_l_cell_at T.f_l_cell_at.kp T.b_l_cell_at (da_cons (de_var 0) (da_cons de_int da_nil))) de_int)) (dss_cons (ds_if (dt_cmp (oc_eq hr.units) (de_op oo_mod (de_op oo_div (de_call (ok_l_cell_at T) (hr.mono (by decide)) rfl T.m_l_cell_at T.f_l_cell_at.kp T.b_l_cell_at (da_cons (de_var 0) (da_cons de_int da_nil))) de_int) de_int) de_int) (dss_one (ds_set 1 sc_l_ways_by.nd (de_op oo_addA de_int (de_op oo_mod (de_op oo_div (de_call (ok_l_cell_at T) (hr.mono (by decide)) rfl T.m_l_cell_at T.f_l_cell_at.kp T.b_l_cell_at (da_cons (de_var 0) (da_cons de_int da_nil))) de_int) de_int)))) dss_nil) (dss_cons (ds_set 2 sc_l_ways_by.nd (de_ix (de_lst (da_cons de_int (da_cons de_int (da_cons de_int da_nil)))) (de_op oo_mod (de_call (ok_l_cell_at T) (hr.mono (by decide)) rfl T.m_l_cell_at T.f_l_cell_at.kp T.b_l_cell_at (da_cons (de_var 0) (da_cons de_int da_nil))) de_int))) (dss_cons (ds_set 3 sc_l_ways_by.nd de_newK) (dss_cons (ds_for PassesOwn.never rfl (di_range1 rfl T.z_range (da_cons (de_var 1) da_nil)) (dg_n 4 sc_l_ways_by.nd) (dss_cons (ds_set 5 sc_l_ways_by.nd (de_call (ok_l_mixed T) (hr.mono (by decide)) rfl T.m_l_mixed T.f_l_mixed.kp T.b_l_mixed (da_cons (de_call (ok_l_cell_at T) (hr.mono (by decide)) rfl T.m_l_cell_at T.f_l_cell_at.kp T.b_l_cell_at (da_cons (de_var 0) (da_cons (de_op oo_addA de_int (de_op oo_mod (de_var 4) de_int)) da_nil))) (da_cons (de_var 4) da_nil)))) (dss_one (ds_asg (de_call (ok_l_drawn_way T) (hr.mono (by decide)) rfl T.m_l_drawn_way T.f_l_drawn_way.kp T.b_l_drawn_way (da_cons (de_op oo_div (de_var 5) de_int) (da_cons (de_var 2) da_nil))) (dg_dset (hu1 hr.units) (de_var 3) (de_ix (de_lst (da_cons (de_op oo_mulA de_int (de_var 4)) (da_cons (de_op oo_sub (de_op oo_pow de_int de_int) (de_var 4)) da_nil))) (de_op oo_mod (de_var 5) de_int))))))) (dss_one (ds_ret (de_var 3))))))))
theorem sc_l_due : FnScope ["_law_ways", "_law_due_here", "_law_one", "_law_other", "_law_pair"] ["_law_ways"] (defScope s_l_due) := ⟨rfl, rfl, rfl, by decide +kernel, rfl, by decide +kernel, by decide +kernel⟩
theorem ok_l_due (T : Tx K mg ad ca fd tk) : FnOk P w K mg base CX0 3 (ad 20) (fd 20) ["_law_ways"] (spN K 1 (F_l_due ca)) :=
  fnN (N := ["_law_ways", "_law_due_here", "_law_one", "_law_other", "_law_pair"]) (b := (b_l_due ca)) T.f_l_due sc_l_due fun cdv A outer s H E hr => by
    exact (dss_cons (ds_set 1 sc_l_due.nd (de_new da_nil)) (dss_cons (ds_forKeys PassesOwn.never rfl (de_var 0) (dg_n 2 sc_l_due.nd) (dss_one (ds_forKL PassesOwn.never rfl (de_var 0) (dg_n 3 sc_l_due.nd) (dss_cons (ds_set 4 sc_l_due.nd de_non) (dss_cons (ds_if (dt_cmp oc_lt (de_var 2) (de_var 3)) (dss_one (ds_set 4 sc_l_due.nd (de_call (ok_l_meeting T) (hr.mono (by decide)) rfl T.m_l_meeting T.f_l_meeting.kp T.b_l_meeting (da_cons (de_dix (hu1 hr.units) (de_var 0) (de_var 2)) (da_cons (de_dix (hu1 hr.units) (de_var 0) (de_var 3)) da_nil))))) dss_nil) (dss_one (ds_if (dt_cmp oc_isnot (de_var 4) de_non) (dss_one (ds_expr (de_bm PySem.F.plainAttrs_list PySem.F.slot_list_append PySem.F.type_list_append mo_append (de_var 1) (da_cons (de_tup (da_cons (de_ix (de_var 4) de_int) (da_cons (de_var 2) (da_cons (de_var 3) (da_cons (de_ix (de_var 4) de_int) da_nil))))) da_nil)))) dss_nil))))))) (dss_one (ds_ret (de_cb (cb_sortP hr.units) rfl T.z_sorted (by decide +kernel) (da_cons (de_var 1) da_nil))))))
theorem sc_l_are : FnScope ["_law_found", "_law_due_here", "_law_row", "_law_part"] ["_law_found", "_law_due_here"] (defScope s_l_are) := ⟨rfl, rfl, rfl, by decide +kernel, rfl, by decide +kernel, by decide +kernel⟩
theorem ok_l_are (T : Tx K mg ad ca fd tk) : FnOk P w K mg base CX0 2 (ad 21) (fd 21) ["_law_found", "_law_due_here"] (spN K 2 (F_l_are ca)) :=
  fnN (N := ["_law_found", "_law_due_here", "_law_row", "_law_part"]) (b := (b_l_are ca)) T.f_l_are sc_l_are fun cdv A outer s H E hr => by
    exact (dss_cons (ds_if (dt_w (dw_or (dt_not (dt_val (de_cb (cb_isi) rfl T.z_isinstance (by decide +kernel) (da_cons (de_var 0) (da_cons (de_ty (T := "list") rfl T.z_list (by decide +kernel)) da_nil))))) (dw_or1 (dt_cmp (oc_ne hr.units) (de_var 0) (de_var 1))))) (dss_one (ds_ret de_bl)) dss_nil) (dss_cons (ds_forC FUEL PassesOwn.never rfl (de_var 0) (dg_n 2 sc_l_are.nd) (dss_one (ds_if (dt_w (dw_or (dt_not (dt_val (de_cb (cb_isi) rfl T.z_isinstance (by decide +kernel) (da_cons (de_var 2) (da_cons (de_ty (T := "tuple") rfl T.z_tuple (by decide +kernel)) da_nil))))) (dw_or1 (dt_not (dt_val (de_cb (cb_all rfl) rfl T.z_all (by decide +kernel) (da_cons (de_lcG (own := [("_law_part", 3)]) fin_lc rfl sc_l_are.nd (di_any (de_slice (de_var 2) do_none (do_some de_int))) (blkOk_by (own := [("_law_part", 3)]) (N := ["_law_found", "_law_due_here", "_law_row", "_law_part"]) (sc := defScope s_l_are) (by decide +kernel)) (fun _ _ _ _ _ => (dw1_n 3 sc_l_are.nd)) (fun _ _ _ _ _ => dts_nil) (fun _ _ _ _ _ => (de_callM (ok_l_whole T) (hr.mono (by decide)) rfl T.m_l_whole T.f_l_whole.kp T.b_l_whole (da_cons (de_var 3) da_nil)))) da_nil))))))) (dss_one (ds_ret de_bl)) dss_nil))) (dss_one (ds_ret de_bl))))
theorem sc_l_never : FnScope ["_law_ways", "_law_end", "_law_way", "_law_rows_here", "_law_time", "_law_here", "_law_row", "_law_steps", "_law_step"] ["_law_ways"] (defScope s_l_never) := ⟨rfl, rfl, rfl, by decide +kernel, rfl, by decide +kernel, by decide +kernel⟩
theorem ok_l_never (T : Tx K mg ad ca fd tk) : FnOk P w K mg base CX0 2 (ad 22) (fd 22) ["_law_ways"] (spN K 1 (F_l_never ca)) :=
  fnN (N := ["_law_ways", "_law_end", "_law_way", "_law_rows_here", "_law_time", "_law_here", "_law_row", "_law_steps", "_law_step"]) (b := (b_l_never ca)) T.f_l_never sc_l_never fun cdv A outer s H E hr => by
    exact (dss_cons (ds_set 1 sc_l_never.nd (de_op oo_addA de_int (de_maxDf rfl hr.units rfl T.z_max (de_lcK true (own := [("_law_way", 2)]) fin_lc rfl sc_l_never.nd (dk_vals (de_var 0)) (blkOk_by (own := [("_law_way", 2)]) (N := ["_law_ways", "_law_end", "_law_way", "_law_rows_here", "_law_time", "_law_here", "_law_row", "_law_steps", "_law_step"]) (sc := defScope s_l_never) (by decide +kernel)) (fun _ _ _ _ _ => (dw1_n 2 sc_l_never.nd)) (fun _ _ _ _ _ => dts_nil) (fun _ _ _ _ _ => (de_op oo_addA (de_ix (de_var 2) de_int) (de_cb (cb_len) rfl T.z_len (by decide +kernel) (da_cons (de_ix (de_var 2) de_int) da_nil))))) de_int))) (dss_cons (ds_lcK true 3 (own := [("_law_way", 2)]) fin_lc rfl sc_l_never.nd (dk_vals (de_var 0)) (blkOk_by (own := [("_law_way", 2)]) (N := ["_law_ways", "_law_end", "_law_way", "_law_rows_here", "_law_time", "_law_here", "_law_row", "_law_steps", "_law_step"]) (sc := defScope s_l_never) (by decide +kernel)) (fun _ _ _ _ _ => (dw1_n 2 sc_l_never.nd)) (fun _ _ _ _ _ => dts_nil) (fun _ _ _ _ _ => (de_call (ok_l_rows T) (hr.mono (by decide)) rfl T.m_l_rows T.f_l_rows.kp T.b_l_rows (da_cons (de_var 2) (da_cons (de_var 1) da_nil))))) (dss_cons (ds_for PassesOwn.never rfl (di_range1 rfl T.z_range (da_cons (de_var 1) da_nil)) (dg_n 4 sc_l_never.nd) (dss_cons (ds_lcG 5 (own := [("_law_row", 6)]) fin_lc rfl sc_l_never.nd (di_any (de_var 3)) (blkOk_by (own := [("_law_row", 6)]) (N := ["_law_ways", "_law_end", "_law_way", "_law_rows_here", "_law_time", "_law_here", "_law_row", "_law_steps", "_law_step"]) (sc := defScope s_l_never) (by decide +kernel)) (fun _ _ _ _ _ => (dw1_n 6 sc_l_never.nd)) (fun _ _ _ _ _ => (dts_one (dt_cmp oc_isnot (de_ix (de_var 6) (de_var 4)) de_non))) (fun _ _ _ _ _ => (de_ix (de_var 6) (de_var 4)))) (dss_cons (ds_set 7 sc_l_never.nd (de_lcG (own := [("_law_row", 6)]) fin_lc rfl sc_l_never.nd (di_any (de_var 3)) (blkOk_by (own := [("_law_row", 6)]) (N := ["_law_ways", "_law_end", "_law_way", "_law_rows_here", "_law_time", "_law_here", "_law_row", "_law_steps", "_law_step"]) (sc := defScope s_l_never) (by decide +kernel)) (fun _ _ _ _ _ => (dw1_n 6 sc_l_never.nd)) (fun _ _ _ _ _ => (dts_one (dt_cmp (oc_ne hr.units) (de_ix (de_var 6) (de_var 4)) (de_ix (de_var 6) (de_op oo_addA (de_var 4) de_int))))) (fun _ _ _ _ _ => (de_tup (da_cons (de_ix (de_var 6) (de_var 4)) (da_cons (de_ix (de_var 6) (de_op oo_addA (de_var 4) de_int)) da_nil)))))) (dss_one (ds_if (dt_w (dw_or (dt_cmp oc_lt (de_lenSet rfl rfl T.z_len rfl T.z_set (de_var 5)) (de_cb (cb_len) rfl T.z_len (by decide +kernel) (da_cons (de_var 5) da_nil))) (dw_or1 (dt_cmp (oc_ne hr.units) (de_lcG (own := [("_law_step", 8)]) fin_lc rfl sc_l_never.nd (di_any (de_var 7)) (blkOk_by (own := [("_law_step", 8)]) (N := ["_law_ways", "_law_end", "_law_way", "_law_rows_here", "_law_time", "_law_here", "_law_row", "_law_steps", "_law_step"]) (sc := defScope s_l_never) (by decide +kernel)) (fun _ _ _ _ _ => (dw1_n 8 sc_l_never.nd)) (fun _ _ _ _ _ => (dts_one (dt_cmp (oc_inL (units65 hr)) (de_tup (da_cons (de_ix (de_var 8) de_int) (da_cons (de_ix (de_var 8) de_int) da_nil))) (de_var 7)))) (fun _ _ _ _ _ => (de_var 8))) (de_lst da_nil))))) (dss_one (ds_ret de_bl)) dss_nil))))) (dss_one (ds_ret de_bl)))))
theorem sc_l_refused : FnScope ["_law_book", "_law_number", "_law_way", "error"] ["_law_book", "_law_number", "_law_way"] (defScope s_l_refused) := ⟨rfl, rfl, rfl, by decide +kernel, rfl, by decide +kernel, by decide +kernel⟩
theorem ok_l_refused (T : Tx K mg ad ca fd tk) : FnOk P w K mg base CX0 4 (ad 23) (fd 23) ["_law_book", "_law_number", "_law_way"] (spN K 3 (F_l_refused ca)) :=
  fnN (N := ["_law_book", "_law_number", "_law_way", "error"]) (b := (b_l_refused ca)) T.f_l_refused sc_l_refused fun cdv A outer s H E hr => by
    exact (dss_cons (ds_tryAs (ca := ca) (c := 2) (i := 3) (tbl := fun j => List.lookup j [(2, true), (1, false)]) (fs := fun a j => (sRet (eXF a j [2] "other" (eVar 3)))) rfl rfl sc_l_refused.nd rfl rfl ⟨rfl, by decide, .inl T.g_Meets⟩ takes0N (tb_cons (T.xc_Meets.exm T.sx_Meets_Meets) (tb_cons (T.xc_Meets.exm T.sx_NoCarrier_Meets) tb_nil)) (fun W' pn xe tk hp => (dss_one (ds_expr (de_methXN 3 T.cl_Book T.me_Book_put tk (ok_Book_put T) (hr.mono (by decide)) T.b_Book_put (de_var 0) (da_cons (de_var 1) (da_cons (de_var 2) da_nil)))))) (fun a oe j pn hj hz hv => (dss_one (ds_ret (de_xf (hotE_suite hz hv) [2] (allC ⟨T.ec_Meets, T.xi_Meets.no⟩ all0) (de_var 3)))))) (dss_one (ds_ret de_non)))
theorem sc_l_put_in : FnScope ["_law_book", "_law_ways", "_law_order", "_law_due_here", "_law_number", "_law_met", "_law_row", "_law_other"] ["_law_book", "_law_ways", "_law_order", "_law_due_here"] (defScope s_l_put_in) := ⟨rfl, rfl, rfl, by decide +kernel, rfl, by decide +kernel, by decide +kernel⟩
theorem ok_l_put_in (T : Tx K mg ad ca fd tk) : FnOk P w K mg base CX0 5 (ad 24) (fd 24) ["_law_book", "_law_ways", "_law_order", "_law_due_here"] (spN K 4 (F_l_put_in ca)) :=
  fnN (N := ["_law_book", "_law_ways", "_law_order", "_law_due_here", "_law_number", "_law_met", "_law_row", "_law_other"]) (b := (b_l_put_in ca)) T.f_l_put_in sc_l_put_in fun cdv A outer s H E hr => by
    exact (dss_cons (ds_for PassesOwn.never rfl (di_any (de_var 2)) (dg_n 4 sc_l_put_in.nd) (dss_cons (ds_lcG 5 (own := [("_law_row", 6)]) fin_lc rfl sc_l_put_in.nd (di_any (de_var 3)) (blkOk_by (own := [("_law_row", 6)]) (N := ["_law_book", "_law_ways", "_law_order", "_law_due_here", "_law_number", "_law_met", "_law_row", "_law_other"]) (sc := defScope s_l_put_in) (by decide +kernel)) (fun _ _ _ _ _ => (dw1_n 6 sc_l_put_in.nd)) (fun _ _ _ _ _ => (dts_one (dt_cmp oc_in (de_var 4) (de_slice (de_var 6) (do_some de_int) (do_some de_int))))) (fun _ _ _ _ _ => (de_op oo_sub (de_op oo_addA (de_ix (de_var 6) de_int) (de_ix (de_var 6) de_int)) (de_var 4)))) (dss_cons (ds_lcG 5 (own := [("_law_other", 7)]) fin_lc rfl sc_l_put_in.nd (di_any (de_var 5)) (blkOk_by (own := [("_law_other", 7)]) (N := ["_law_book", "_law_ways", "_law_order", "_law_due_here", "_law_number", "_law_met", "_law_row", "_law_other"]) (sc := defScope s_l_put_in) (by decide +kernel)) (fun _ _ _ _ _ => (dw1_n 7 sc_l_put_in.nd)) (fun _ _ _ _ _ => (dts_one (dt_cmp oc_in (de_var 7) (de_meth0 3 T.cl_Book T.me_Book_numbers (ok_Book_numbers T) (hr.mono (by decide)) T.b_Book_numbers (de_var 0))))) (fun _ _ _ _ _ => (de_var 7))) (dss_one (ds_if (dt_cmp (oc_ne hr.units) (de_callM (ok_l_refused T) (hr.mono (by decide)) rfl T.m_l_refused T.f_l_refused.kp T.b_l_refused (da_cons (de_var 0) (da_cons (de_var 4) (da_cons (de_dix (hu1 hr.units) (de_var 1) (de_var 4)) da_nil)))) (de_minDf rfl hr.units rfl T.z_min (de_var 5) de_non)) (dss_one (ds_ret de_bl)) dss_nil))))) (dss_one (ds_ret de_bl)))
theorem sc_law : FnScope ["_law_script", "_law_ways", "_law_due_here", "_law_handed", "_law_found", "_law_book", "_law_order", "_law_kept", "_law_number", "_law_left"] ["_law_script"] (defScope s_law) := ⟨rfl, rfl, rfl, by decide +kernel, rfl, by decide +kernel, by decide +kernel⟩
theorem ok_law (T : Tx K mg ad ca fd tk) : FnOk P w K mg base CX0 6 (ad 25) (fd 25) ["_law_script"] (spN K 1 (F_law ca)) :=
  fnN (N := ["_law_script", "_law_ways", "_law_due_here", "_law_handed", "_law_found", "_law_book", "_law_order", "_law_kept", "_law_number", "_law_left"]) (b := (b_law ca)) T.f_law sc_law fun cdv A outer s H E hr => by
    exact (dss_cons (ds_set 1 sc_law.nd (de_callM (ok_l_ways_by T) (hr.mono (by decide)) rfl T.m_l_ways_by T.f_l_ways_by.kp T.b_l_ways_by (da_cons (de_var 0) da_nil))) (dss_cons (ds_set 2 sc_law.nd (de_callM (ok_l_due T) (hr.mono (by decide)) rfl T.m_l_due T.f_l_due.kp T.b_l_due (da_cons (de_var 1) da_nil))) (dss_cons (ds_set 3 sc_law.nd (de_ct cb_dictC rfl T.z_dict (by decide +kernel) (da_cons (de_var 1) da_nil))) (dss_cons (ds_set 4 sc_law.nd (de_callM (ok_meetings T) (hr.mono (by decide)) rfl T.m_meetings T.f_meetings.kp T.b_meetings (da_cons (de_var 3) da_nil))) (dss_cons (ds_if (dt_w (dw_or (dt_not (dt_val (de_callM (ok_l_are T) (hr.mono (by decide)) rfl T.m_l_are T.f_l_are.kp T.b_l_are (da_cons (de_var 4) (da_cons (de_var 2) da_nil))))) (dw_or1 (dt_cmp (oc_dneP (units65 hr)) (de_var 3) (de_var 1))))) (dss_one (ds_ret de_bl)) dss_nil) (dss_cons (ds_expr (de_bm PySem.F.plainAttrs_list PySem.F.slot_list_append PySem.F.type_list_append mo_append (de_var 4) (da_cons (de_tup (da_cons de_int (da_cons de_int (da_cons de_int (da_cons de_str da_nil))))) da_nil))) (dss_cons (ds_if (dt_not (dt_val (de_callM (ok_l_are T) (hr.mono (by decide)) rfl T.m_l_are T.f_l_are.kp T.b_l_are (da_cons (de_callM (ok_meetings T) (hr.mono (by decide)) rfl T.m_meetings T.f_meetings.kp T.b_meetings (da_cons (de_var 3) da_nil)) (da_cons (de_var 2) da_nil))))) (dss_one (ds_ret de_bl)) dss_nil) (dss_cons (ds_set 5 sc_law.nd (de_make0 3 T.mk_Book (ok_Book_init T) (hr.mono (by decide)) rfl T.g_Book T.b_Book_init)) (dss_cons (ds_set 6 sc_law.nd (de_stepL (de_cb (cb_sortD rfl) rfl T.z_sorted (by decide +kernel) (da_cons (de_var 1) da_nil)) (de_ix (de_lst (da_cons de_int (da_cons (de_un ou_neg de_int) da_nil))) (de_op oo_mod (de_call (ok_l_cell_at T) (hr.mono (by decide)) rfl T.m_l_cell_at T.f_l_cell_at.kp T.b_l_cell_at (da_cons (de_var 0) (da_cons de_int da_nil))) de_int)))) (dss_cons (ds_if (dt_not (dt_val (de_callM (ok_l_put_in T) (hr.mono (by decide)) rfl T.m_l_put_in T.f_l_put_in.kp T.b_l_put_in (da_cons (de_var 5) (da_cons (de_var 1) (da_cons (de_var 6) (da_cons (de_var 2) da_nil))))))) (dss_one (ds_ret de_bl)) dss_nil) (dss_cons (ds_set 7 sc_law.nd (de_ct (cb_dictP rfl) rfl T.z_dict (by decide +kernel) (da_cons (de_lcG (own := [("_law_number", 8)]) fin_lc rfl sc_law.nd (di_any (de_meth0 3 T.cl_Book T.me_Book_numbers (ok_Book_numbers T) (hr.mono (by decide)) T.b_Book_numbers (de_var 5))) (blkOk_by (own := [("_law_number", 8)]) (N := ["_law_script", "_law_ways", "_law_due_here", "_law_handed", "_law_found", "_law_book", "_law_order", "_law_kept", "_law_number", "_law_left"]) (sc := defScope s_law) (by decide +kernel)) (fun _ _ _ _ _ => (dw1_n 8 sc_law.nd)) (fun _ _ _ _ _ => dts_nil) (fun _ _ _ _ _ => (de_tup (da_cons (de_var 8) (da_cons (de_methXN 3 T.cl_Book T.me_Book_way takes0N (ok_Book_way T) (hr.mono (by decide)) T.b_Book_way (de_var 5) (da_cons (de_var 8) da_nil)) da_nil))))) da_nil))) (dss_cons (ds_if (dt_w (dw_or (dt_cmp (oc_ne hr.units) (de_callM (ok_meetings T) (hr.mono (by decide)) rfl T.m_meetings T.f_meetings.kp T.b_meetings (da_cons (de_var 7) da_nil)) (de_lst da_nil)) (dw_or1 (dt_not (dt_val (de_callM (ok_l_never T) (hr.mono (by decide)) rfl T.m_l_never T.f_l_never.kp T.b_l_never (da_cons (de_var 7) da_nil))))))) (dss_one (ds_ret de_bl)) dss_nil) (dss_cons (ds_if (dt_cmp (oc_ne hr.units) (de_lcK false (own := [("_law_number", 8)]) fin_lc rfl sc_law.nd (dk_keys (de_var 7)) (blkOk_by (own := [("_law_number", 8)]) (N := ["_law_script", "_law_ways", "_law_due_here", "_law_handed", "_law_found", "_law_book", "_law_order", "_law_kept", "_law_number", "_law_left"]) (sc := defScope s_law) (by decide +kernel)) (fun _ _ _ _ _ => (dw1_n 8 sc_law.nd)) (fun _ _ _ _ _ => (dts_one (dt_cmp (oc_ne hr.units) (de_dix (hu1 hr.units) (de_var 7) (de_var 8)) (de_dix (hu1 hr.units) (de_var 1) (de_var 8))))) (fun _ _ _ _ _ => (de_var 8))) (de_lst da_nil)) (dss_one (ds_ret de_bl)) dss_nil) (dss_cons (ds_lcG 9 (own := [("_law_number", 8)]) fin_lc rfl sc_law.nd (di_any (de_var 6)) (blkOk_by (own := [("_law_number", 8)]) (N := ["_law_script", "_law_ways", "_law_due_here", "_law_handed", "_law_found", "_law_book", "_law_order", "_law_kept", "_law_number", "_law_left"]) (sc := defScope s_law) (by decide +kernel)) (fun _ _ _ _ _ => (dw1_n 8 sc_law.nd)) (fun _ _ _ _ _ => (dts_one (dt_cmp (oc_dnotin (hu1 hr.units)) (de_var 8) (de_var 7)))) (fun _ _ _ _ _ => (de_var 8))) (dss_cons (ds_if (dt_w (dw_and (dt_cmp (oc_dne (hu1 hr.units)) (de_var 7) de_newK) (dw_and1 (dt_cmp (oc_ne hr.units) (de_var 9) (de_lst da_nil))))) (dss_cons (ds_expr (de_methXN 3 T.cl_Book T.me_Book_drop takes0N (ok_Book_drop T) (hr.mono (by decide)) T.b_Book_drop (de_var 5) (da_cons (de_ix (de_cb (cb_sortD rfl) rfl T.z_sorted (by decide +kernel) (da_cons (de_var 7) da_nil)) (de_op oo_mod (de_call (ok_l_cell_at T) (hr.mono (by decide)) rfl T.m_l_cell_at T.f_l_cell_at.kp T.b_l_cell_at (da_cons (de_var 0) (da_cons de_int da_nil))) (de_cb cb_dlen rfl T.z_len (by decide +kernel) (da_cons (de_var 7) da_nil)))) da_nil))) (dss_one (ds_if (dt_not (dt_val (de_callM (ok_l_put_in T) (hr.mono (by decide)) rfl T.m_l_put_in T.f_l_put_in.kp T.b_l_put_in (da_cons (de_var 5) (da_cons (de_var 1) (da_cons (de_var 9) (da_cons (de_var 2) da_nil))))))) (dss_one (ds_ret de_bl)) dss_nil))) dss_nil) (dss_cons (ds_set 7 sc_law.nd (de_ct (cb_dictP rfl) rfl T.z_dict (by decide +kernel) (da_cons (de_lcG (own := [("_law_number", 8)]) fin_lc rfl sc_law.nd (di_any (de_meth0 3 T.cl_Book T.me_Book_numbers (ok_Book_numbers T) (hr.mono (by decide)) T.b_Book_numbers (de_var 5))) (blkOk_by (own := [("_law_number", 8)]) (N := ["_law_script", "_law_ways", "_law_due_here", "_law_handed", "_law_found", "_law_book", "_law_order", "_law_kept", "_law_number", "_law_left"]) (sc := defScope s_law) (by decide +kernel)) (fun _ _ _ _ _ => (dw1_n 8 sc_law.nd)) (fun _ _ _ _ _ => dts_nil) (fun _ _ _ _ _ => (de_tup (da_cons (de_var 8) (da_cons (de_methXN 3 T.cl_Book T.me_Book_way takes0N (ok_Book_way T) (hr.mono (by decide)) T.b_Book_way (de_var 5) (da_cons (de_var 8) da_nil)) da_nil))))) da_nil))) (dss_one (ds_ret (de_and (de_cmp (oc_eq hr.units) (de_callM (ok_meetings T) (hr.mono (by decide)) rfl T.m_meetings T.f_meetings.kp T.b_meetings (da_cons (de_var 7) da_nil)) (de_lst da_nil)) (de_one (de_callM (ok_l_never T) (hr.mono (by decide)) rfl T.m_l_never T.f_l_never.kp T.b_l_never (da_cons (de_var 7) da_nil))))))))))))))))))))))
end
/-! the top -/
theorem all_mk {K : PySem.W.Frag} {h : Heap} {mg : Str → Option Value} (X : K.In h) (G : h.Ns mainGlobals mg)
    {f0 f1 f2 f3 f4 f5 f6 f7 f8 f9 f10 f11 f12 f13 f14 f15 f16 f17 f18 f19 f20 f21 f22 f23 f24 f25 C3 C0 C1 C2 : Addr} {od0 an0 od1 an1 od2 an2 od3 an3 od4 an4 od5 an5 od6 an6 od7 an7 od8 an8 od9 an9 od10 an10 od11 an11 od12 an12 od13 an13 od14 an14 od15 an15 od16 an16 od17 an17 od18 an18 od19 an19 od20 an20 od21 an21 od22 an22 od23 an23 od24 an24 od25 an25 : Option Addr} {sl0 sl1 sl2 sl3 sl4 sl5 sl6 sl7 sl8 sl9 sl10 sl11 sl12 sl13 sl14 sl15 sl16 sl17 sl18 sl19 sl20 sl21 sl22 sl23 sl24 sl25 : Array (Option Value)} {oc0 kV0 dc0 pm0 cd0 ct0 oc1 kV1 dc1 pm1 cd1 ct1 oc2 kV2 dc2 pm2 cd2 ct2 oc3 kV3 dc3 pm3 cd3 ct3 oc4 kV4 dc4 pm4 cd4 ct4 oc5 kV5 dc5 pm5 cd5 ct5 oc6 kV6 dc6 pm6 cd6 ct6 oc7 kV7 dc7 pm7 cd7 ct7 oc8 kV8 dc8 pm8 cd8 ct8 oc9 kV9 dc9 pm9 cd9 ct9 oc10 kV10 dc10 pm10 cd10 ct10 oc11 kV11 dc11 pm11 cd11 ct11 oc12 kV12 dc12 pm12 cd12 ct12 oc13 kV13 dc13 pm13 cd13 ct13 oc14 kV14 dc14 pm14 cd14 ct14 oc15 kV15 dc15 pm15 cd15 ct15 oc16 kV16 dc16 pm16 cd16 ct16 oc17 kV17 dc17 pm17 cd17 ct17 oc18 kV18 dc18 pm18 cd18 ct18 oc19 kV19 dc19 pm19 cd19 ct19 oc20 kV20 dc20 pm20 cd20 ct20 oc21 kV21 dc21 pm21 cd21 ct21 oc22 kV22 dc22 pm22 cd22 ct22 oc23 kV23 dc23 pm23 cd23 ct23 oc24 kV24 dc24 pm24 cd24 ct24 oc25 kV25 dc25 pm25 cd25 ct25 : Value}
    (aC3 : PySem.W.nsIn K mainGlobals "Book" = some (some (.ref C3))) (pgC3 : PySem.W.plainGet K C3 Str.empty = true) (hdC3 : PySem.W.hasDictIn K C3 = true) (poC3 : PySem.W.plainOver K C3 = true) (saC3 : PySem.W.findIn K (.ref C3) "__setattr__" = some (some (.builtin "object.__setattr__"))) (mkC3 : PySem.W.makesIn K C3 = true) (kcC3 : PySem.W.keepIn K (.ref C3) = true)
    (aC0 : PySem.W.nsIn K mainGlobals "FloorError" = some (some (.ref C0)))
    (aC1 : PySem.W.nsIn K mainGlobals "NoCarrier" = some (some (.ref C1)))
    (aC2 : PySem.W.nsIn K mainGlobals "Meets" = some (some (.ref C2)))
    (a0 : PySem.W.findIn K (.ref C2) "__init__" = some (some (.ref f0))) (i0 : PySem.W.typeIn K (.ref f0) = some (.type "function")) (l0 : K.lookup f0 = some ⟨oc0, od0, .func (PySem.W.fnOf "__init__" "Meets.__init__" (defArgs s_Meets_init) (defBody s_Meets_init) (defScope s_Meets_init) .none kV0 dc0 pm0 an0 cd0 ct0), sl0⟩) (c0 : PySem.W.codeIn K cd0 "Meets.__init__" = true) (k0 : PySem.W.keepIn K (.ref f0) = true)
    (a1 : PySem.W.nsIn K mainGlobals "place_at" = some (some (.ref f1))) (l1 : K.lookup f1 = some ⟨oc1, od1, .func (PySem.W.fnOf "place_at" "place_at" (defArgs s_place_at) (defBody s_place_at) (defScope s_place_at) .none kV1 dc1 pm1 an1 cd1 ct1), sl1⟩) (c1 : PySem.W.codeIn K cd1 "place_at" = true) (k1 : PySem.W.keepIn K (.ref f1) = true)
    (a2 : PySem.W.nsIn K mainGlobals "last_time" = some (some (.ref f2))) (l2 : K.lookup f2 = some ⟨oc2, od2, .func (PySem.W.fnOf "last_time" "last_time" (defArgs s_last_time) (defBody s_last_time) (defScope s_last_time) .none kV2 dc2 pm2 an2 cd2 ct2), sl2⟩) (c2 : PySem.W.codeIn K cd2 "last_time" = true) (k2 : PySem.W.keepIn K (.ref f2) = true)
    (a3 : PySem.W.nsIn K mainGlobals "meeting_word" = some (some (.ref f3))) (l3 : K.lookup f3 = some ⟨oc3, od3, .func (PySem.W.fnOf "meeting_word" "meeting_word" (defArgs s_meeting_word) (defBody s_meeting_word) (defScope s_meeting_word) .none kV3 dc3 pm3 an3 cd3 ct3), sl3⟩) (c3 : PySem.W.codeIn K cd3 "meeting_word" = true) (k3 : PySem.W.keepIn K (.ref f3) = true)
    (a4 : PySem.W.nsIn K mainGlobals "first_meeting" = some (some (.ref f4))) (l4 : K.lookup f4 = some ⟨oc4, od4, .func (PySem.W.fnOf "first_meeting" "first_meeting" (defArgs s_first_meeting) (defBody s_first_meeting) (defScope s_first_meeting) .none kV4 dc4 pm4 an4 cd4 ct4), sl4⟩) (c4 : PySem.W.codeIn K cd4 "first_meeting" = true) (k4 : PySem.W.keepIn K (.ref f4) = true)
    (a5 : PySem.W.nsIn K mainGlobals "meetings" = some (some (.ref f5))) (l5 : K.lookup f5 = some ⟨oc5, od5, .func (PySem.W.fnOf "meetings" "meetings" (defArgs s_meetings) (defBody s_meetings) (defScope s_meetings) .none kV5 dc5 pm5 an5 cd5 ct5), sl5⟩) (c5 : PySem.W.codeIn K cd5 "meetings" = true) (k5 : PySem.W.keepIn K (.ref f5) = true)
    (a6 : PySem.W.findIn K (.ref C3) "__init__" = some (some (.ref f6))) (i6 : PySem.W.isFn K (.ref f6) = true) (l6 : K.lookup f6 = some ⟨oc6, od6, .func (PySem.W.fnOf "__init__" "Book.__init__" (defArgs s_Book_init) (defBody s_Book_init) (defScope s_Book_init) .none kV6 dc6 pm6 an6 cd6 ct6), sl6⟩) (c6 : PySem.W.codeIn K cd6 "Book.__init__" = true) (k6 : PySem.W.keepIn K (.ref f6) = true)
    (a7 : PySem.W.findIn K (.ref C3) "others" = some (some (.ref f7))) (i7 : PySem.W.isFn K (.ref f7) = true) (l7 : K.lookup f7 = some ⟨oc7, od7, .func (PySem.W.fnOf "others" "Book.others" (defArgs s_Book_others) (defBody s_Book_others) (defScope s_Book_others) .none kV7 dc7 pm7 an7 cd7 ct7), sl7⟩) (c7 : PySem.W.codeIn K cd7 "Book.others" = true) (k7 : PySem.W.keepIn K (.ref f7) = true)
    (a8 : PySem.W.findIn K (.ref C3) "put" = some (some (.ref f8))) (i8 : PySem.W.isFn K (.ref f8) = true) (l8 : K.lookup f8 = some ⟨oc8, od8, .func (PySem.W.fnOf "put" "Book.put" (defArgs s_Book_put) (defBody s_Book_put) (defScope s_Book_put) .none kV8 dc8 pm8 an8 cd8 ct8), sl8⟩) (c8 : PySem.W.codeIn K cd8 "Book.put" = true) (k8 : PySem.W.keepIn K (.ref f8) = true)
    (a9 : PySem.W.findIn K (.ref C3) "need" = some (some (.ref f9))) (i9 : PySem.W.isFn K (.ref f9) = true) (l9 : K.lookup f9 = some ⟨oc9, od9, .func (PySem.W.fnOf "need" "Book.need" (defArgs s_Book_need) (defBody s_Book_need) (defScope s_Book_need) .none kV9 dc9 pm9 an9 cd9 ct9), sl9⟩) (c9 : PySem.W.codeIn K cd9 "Book.need" = true) (k9 : PySem.W.keepIn K (.ref f9) = true)
    (a10 : PySem.W.findIn K (.ref C3) "drop" = some (some (.ref f10))) (i10 : PySem.W.isFn K (.ref f10) = true) (l10 : K.lookup f10 = some ⟨oc10, od10, .func (PySem.W.fnOf "drop" "Book.drop" (defArgs s_Book_drop) (defBody s_Book_drop) (defScope s_Book_drop) .none kV10 dc10 pm10 an10 cd10 ct10), sl10⟩) (c10 : PySem.W.codeIn K cd10 "Book.drop" = true) (k10 : PySem.W.keepIn K (.ref f10) = true)
    (a11 : PySem.W.findIn K (.ref C3) "way" = some (some (.ref f11))) (i11 : PySem.W.isFn K (.ref f11) = true) (l11 : K.lookup f11 = some ⟨oc11, od11, .func (PySem.W.fnOf "way" "Book.way" (defArgs s_Book_way) (defBody s_Book_way) (defScope s_Book_way) .none kV11 dc11 pm11 an11 cd11 ct11), sl11⟩) (c11 : PySem.W.codeIn K cd11 "Book.way" = true) (k11 : PySem.W.keepIn K (.ref f11) = true)
    (a12 : PySem.W.findIn K (.ref C3) "numbers" = some (some (.ref f12))) (i12 : PySem.W.isFn K (.ref f12) = true) (l12 : K.lookup f12 = some ⟨oc12, od12, .func (PySem.W.fnOf "numbers" "Book.numbers" (defArgs s_Book_numbers) (defBody s_Book_numbers) (defScope s_Book_numbers) .none kV12 dc12 pm12 an12 cd12 ct12), sl12⟩) (c12 : PySem.W.codeIn K cd12 "Book.numbers" = true) (k12 : PySem.W.keepIn K (.ref f12) = true)
    (a13 : PySem.W.nsIn K mainGlobals "_law_cell_at" = some (some (.ref f13))) (l13 : K.lookup f13 = some ⟨oc13, od13, .func (PySem.W.fnOf "_law_cell_at" "_law_cell_at" (defArgs s_l_cell_at) (defBody s_l_cell_at) (defScope s_l_cell_at) .none kV13 dc13 pm13 an13 cd13 ct13), sl13⟩) (c13 : PySem.W.codeIn K cd13 "_law_cell_at" = true) (k13 : PySem.W.keepIn K (.ref f13) = true)
    (a14 : PySem.W.nsIn K mainGlobals "_law_mixed" = some (some (.ref f14))) (l14 : K.lookup f14 = some ⟨oc14, od14, .func (PySem.W.fnOf "_law_mixed" "_law_mixed" (defArgs s_l_mixed) (defBody s_l_mixed) (defScope s_l_mixed) .none kV14 dc14 pm14 an14 cd14 ct14), sl14⟩) (c14 : PySem.W.codeIn K cd14 "_law_mixed" = true) (k14 : PySem.W.keepIn K (.ref f14) = true)
    (a15 : PySem.W.nsIn K mainGlobals "_law_whole" = some (some (.ref f15))) (l15 : K.lookup f15 = some ⟨oc15, od15, .func (PySem.W.fnOf "_law_whole" "_law_whole" (defArgs s_l_whole) (defBody s_l_whole) (defScope s_l_whole) .none kV15 dc15 pm15 an15 cd15 ct15), sl15⟩) (c15 : PySem.W.codeIn K cd15 "_law_whole" = true) (k15 : PySem.W.keepIn K (.ref f15) = true)
    (a16 : PySem.W.nsIn K mainGlobals "_law_rows" = some (some (.ref f16))) (l16 : K.lookup f16 = some ⟨oc16, od16, .func (PySem.W.fnOf "_law_rows" "_law_rows" (defArgs s_l_rows) (defBody s_l_rows) (defScope s_l_rows) .none kV16 dc16 pm16 an16 cd16 ct16), sl16⟩) (c16 : PySem.W.codeIn K cd16 "_law_rows" = true) (k16 : PySem.W.keepIn K (.ref f16) = true)
    (a17 : PySem.W.nsIn K mainGlobals "_law_meeting" = some (some (.ref f17))) (l17 : K.lookup f17 = some ⟨oc17, od17, .func (PySem.W.fnOf "_law_meeting" "_law_meeting" (defArgs s_l_meeting) (defBody s_l_meeting) (defScope s_l_meeting) .none kV17 dc17 pm17 an17 cd17 ct17), sl17⟩) (c17 : PySem.W.codeIn K cd17 "_law_meeting" = true) (k17 : PySem.W.keepIn K (.ref f17) = true)
    (a18 : PySem.W.nsIn K mainGlobals "_law_drawn_way" = some (some (.ref f18))) (l18 : K.lookup f18 = some ⟨oc18, od18, .func (PySem.W.fnOf "_law_drawn_way" "_law_drawn_way" (defArgs s_l_drawn_way) (defBody s_l_drawn_way) (defScope s_l_drawn_way) .none kV18 dc18 pm18 an18 cd18 ct18), sl18⟩) (c18 : PySem.W.codeIn K cd18 "_law_drawn_way" = true) (k18 : PySem.W.keepIn K (.ref f18) = true)
    (a19 : PySem.W.nsIn K mainGlobals "_law_ways_by" = some (some (.ref f19))) (l19 : K.lookup f19 = some ⟨oc19, od19, .func (PySem.W.fnOf "_law_ways_by" "_law_ways_by" (defArgs s_l_ways_by) (defBody s_l_ways_by) (defScope s_l_ways_by) .none kV19 dc19 pm19 an19 cd19 ct19), sl19⟩) (c19 : PySem.W.codeIn K cd19 "_law_ways_by" = true) (k19 : PySem.W.keepIn K (.ref f19) = true)
    (a20 : PySem.W.nsIn K mainGlobals "_law_due" = some (some (.ref f20))) (l20 : K.lookup f20 = some ⟨oc20, od20, .func (PySem.W.fnOf "_law_due" "_law_due" (defArgs s_l_due) (defBody s_l_due) (defScope s_l_due) .none kV20 dc20 pm20 an20 cd20 ct20), sl20⟩) (c20 : PySem.W.codeIn K cd20 "_law_due" = true) (k20 : PySem.W.keepIn K (.ref f20) = true)
    (a21 : PySem.W.nsIn K mainGlobals "_law_are" = some (some (.ref f21))) (l21 : K.lookup f21 = some ⟨oc21, od21, .func (PySem.W.fnOf "_law_are" "_law_are" (defArgs s_l_are) (defBody s_l_are) (defScope s_l_are) .none kV21 dc21 pm21 an21 cd21 ct21), sl21⟩) (c21 : PySem.W.codeIn K cd21 "_law_are" = true) (k21 : PySem.W.keepIn K (.ref f21) = true)
    (a22 : PySem.W.nsIn K mainGlobals "_law_never" = some (some (.ref f22))) (l22 : K.lookup f22 = some ⟨oc22, od22, .func (PySem.W.fnOf "_law_never" "_law_never" (defArgs s_l_never) (defBody s_l_never) (defScope s_l_never) .none kV22 dc22 pm22 an22 cd22 ct22), sl22⟩) (c22 : PySem.W.codeIn K cd22 "_law_never" = true) (k22 : PySem.W.keepIn K (.ref f22) = true)
    (a23 : PySem.W.nsIn K mainGlobals "_law_refused" = some (some (.ref f23))) (l23 : K.lookup f23 = some ⟨oc23, od23, .func (PySem.W.fnOf "_law_refused" "_law_refused" (defArgs s_l_refused) (defBody s_l_refused) (defScope s_l_refused) .none kV23 dc23 pm23 an23 cd23 ct23), sl23⟩) (c23 : PySem.W.codeIn K cd23 "_law_refused" = true) (k23 : PySem.W.keepIn K (.ref f23) = true)
    (a24 : PySem.W.nsIn K mainGlobals "_law_put_in" = some (some (.ref f24))) (l24 : K.lookup f24 = some ⟨oc24, od24, .func (PySem.W.fnOf "_law_put_in" "_law_put_in" (defArgs s_l_put_in) (defBody s_l_put_in) (defScope s_l_put_in) .none kV24 dc24 pm24 an24 cd24 ct24), sl24⟩) (c24 : PySem.W.codeIn K cd24 "_law_put_in" = true) (k24 : PySem.W.keepIn K (.ref f24) = true)
    (a25 : PySem.W.nsIn K mainGlobals "law" = some (some (.ref f25))) (l25 : K.lookup f25 = some ⟨oc25, od25, .func (PySem.W.fnOf "law" "law" (defArgs s_law) (defBody s_law) (defScope s_law) .none kV25 dc25 pm25 an25 cd25 ct25), sl25⟩) (c25 : PySem.W.codeIn K cd25 "law" = true) (k25 : PySem.W.keepIn K (.ref f25) = true)
    (xaC1 : PySem.W.excIn K C1 [.type "ValueError", .type "Exception", .type "BaseException", .type "object"] "ValueError.__new__" = true) (xbC1 : PySem.W.keepIn K (.ref C1) = true) (xcC1 : PySem.W.subIn K (.ref C1) (.type "BaseException") = some true) (xdC1 : PySem.W.typeIn K (.ref C1) = some (.type "type"))
    (caC2 : PySem.W.subIn K (.ref C2) (.type "BaseException") = some true) (cbC2 : PySem.W.hasDictIn K C2 = true) (ccC2 : PySem.W.typeIn K (.ref C2) = some (.type "type"))
    (sx0 : PySem.W.subIn K (.ref C1) (.ref C2) = some false)
    (sx1 : PySem.W.subIn K (.ref C2) (.ref C2) = some true)
    {nm2 q2_ : Str} {N2 : Addr} {bs2 bm2 : List Value} {sn2 : List Str} {sb2 : List Value} {ab2 : Bool} {co2 : Option Bool} {dd2 : Option Addr} {u0_2 u1_2 u2_2 u3_2 u5_2 : Option Value}
    (wlC2 : K.lookup C2 = some (excClassObj nm2 q2_ C2 N2 bs2 bm2 true sn2 sb2 ab2 co2 dd2 u0_2 u1_2 u2_2 u3_2 u5_2 "ValueError.__new__")) (wrC2 : PySem.HandSPX.refsVE bm2 = true) (wsC2 : PySem.W.findIn K (.ref C2) "__setattr__" = some (some (.builtin "object.__setattr__"))) (weC2 : PySem.W.subIn K (.ref C2) (.type "BaseException") = some true) (wtC2 : PySem.W.typeIn K (.ref C2) = some (.type "type")) (wkC2 : PySem.W.keepIn K (.ref C2) = true) (wnC2 : PySem.W.findIn K (.ref C2) "other" = some none)
    (uaC0 : PySem.W.readsIn K C0 (.type "type") = true) (ubC0 : PySem.W.specialIn K (.ref C0) "__getattribute__" = some (some (.builtin "type.__getattribute__"))) (ucC0 : PySem.W.findCls K (.ref C0) (.type "type") "__init__" = some (.val (.builtin "ValueError.__init__")))
    (eaC2 : PySem.W.findIn K (.ref C2) "__getattribute__" = some (some (.builtin "BaseException.__getattribute__"))) (ebC2 : PySem.W.findIn K (.ref C2) "__getattr__" = some none) (ecC2 : PySem.W.subIn K (.ref C2) (.type "BaseException") = some true) (edC2 : PySem.W.hasDictIn K C2 = true) (eeC2 : PySem.W.findIn K (.ref C2) "__class__" = some (some (.builtin "object.__class__"))) (efC2 : PySem.W.specialIn K (.builtin "object.__class__") "__get__" = some (some (.builtin "getset_descriptor.__get__"))) (egC2 : PySem.W.takesIn K (.builtin "object.__class__") = some true) (ehC2 : PySem.W.mroIn K C2 (.type "object") = some true)
    (eaC1 : PySem.W.findIn K (.ref C1) "__getattribute__" = some (some (.builtin "BaseException.__getattribute__"))) (ebC1 : PySem.W.findIn K (.ref C1) "__getattr__" = some none) (ecC1 : PySem.W.subIn K (.ref C1) (.type "BaseException") = some true) (edC1 : PySem.W.hasDictIn K C1 = true) (eeC1 : PySem.W.findIn K (.ref C1) "__class__" = some (some (.builtin "object.__class__"))) (efC1 : PySem.W.specialIn K (.builtin "object.__class__") "__get__" = some (some (.builtin "getset_descriptor.__get__"))) (egC1 : PySem.W.takesIn K (.builtin "object.__class__") = some true) (ehC1 : PySem.W.mroIn K C1 (.type "object") = some true)
    (n0 : PySem.W.findIn K (.ref C3) "kept" = some none)
    (z0 : PySem.W.nsIn K mainGlobals "dict" = some none)
    (z1 : PySem.W.nsIn K mainGlobals "sorted" = some none)
    (z2 : PySem.W.nsIn K mainGlobals "len" = some none)
    (z3 : PySem.W.nsIn K mainGlobals "enumerate" = some none)
    (z4 : PySem.W.nsIn K mainGlobals "max" = some none)
    (z5 : PySem.W.nsIn K mainGlobals "min" = some none)
    (z6 : PySem.W.nsIn K mainGlobals "range" = some none)
    (z7 : PySem.W.nsIn K mainGlobals "tuple" = some none)
    (z8 : PySem.W.nsIn K mainGlobals "set" = some none)
    (z9 : PySem.W.nsIn K mainGlobals "list" = some none)
    (z10 : PySem.W.nsIn K mainGlobals "isinstance" = some none)
    (z11 : PySem.W.nsIn K mainGlobals "all" = some none)
    (z12 : PySem.W.nsIn K mainGlobals "int" = some none)
    (z13 : PySem.W.nsIn K mainGlobals "bool" = some none)
    : ∃ (ad : Nat → Addr) (ca : Nat → Addr) (fd : Nat → FuncData) (tk : Nat → Tok), Tx K mg ad ca fd tk ∧ ad 25 = f25 ∧ fd 25 = PySem.W.fnOf "law" "law" (defArgs s_law) (defBody s_law) (defScope s_law) .none kV25 dc25 pm25 an25 cd25 ct25 := by
  have F0 := fun_mk (st := s_Meets_init) l0 c0 k0
  have F1 := fun_mk (st := s_place_at) l1 c1 k1
  have F2 := fun_mk (st := s_last_time) l2 c2 k2
  have F3 := fun_mk (st := s_meeting_word) l3 c3 k3
  have F4 := fun_mk (st := s_first_meeting) l4 c4 k4
  have F5 := fun_mk (st := s_meetings) l5 c5 k5
  have F6 := fun_mk (st := s_Book_init) l6 c6 k6
  have F7 := fun_mk (st := s_Book_others) l7 c7 k7
  have F8 := fun_mk (st := s_Book_put) l8 c8 k8
  have F9 := fun_mk (st := s_Book_need) l9 c9 k9
  have F10 := fun_mk (st := s_Book_drop) l10 c10 k10
  have F11 := fun_mk (st := s_Book_way) l11 c11 k11
  have F12 := fun_mk (st := s_Book_numbers) l12 c12 k12
  have F13 := fun_mk (st := s_l_cell_at) l13 c13 k13
  have F14 := fun_mk (st := s_l_mixed) l14 c14 k14
  have F15 := fun_mk (st := s_l_whole) l15 c15 k15
  have F16 := fun_mk (st := s_l_rows) l16 c16 k16
  have F17 := fun_mk (st := s_l_meeting) l17 c17 k17
  have F18 := fun_mk (st := s_l_drawn_way) l18 c18 k18
  have F19 := fun_mk (st := s_l_ways_by) l19 c19 k19
  have F20 := fun_mk (st := s_l_due) l20 c20 k20
  have F21 := fun_mk (st := s_l_are) l21 c21 k21
  have F22 := fun_mk (st := s_l_never) l22 c22 k22
  have F23 := fun_mk (st := s_l_refused) l23 c23 k23
  have F24 := fun_mk (st := s_l_put_in) l24 c24 k24
  have F25 := fun_mk (st := s_law) l25 c25 k25
  have B0 := F0.binds (ps := ["self", "other"]) fun _ _ _ _ _ _ us hl => match us, hl with | [_, _], _ => rfl
  have B1 := F1.binds (ps := ["way", "time"]) fun _ _ _ _ _ _ us hl => match us, hl with | [_, _], _ => rfl
  have B2 := F2.binds (ps := ["way"]) fun _ _ _ _ _ _ us hl => match us, hl with | [_], _ => rfl
  have B3 := F3.binds (ps := ["here", "there"]) fun _ _ _ _ _ _ us hl => match us, hl with | [_, _], _ => rfl
  have B4 := F4.binds (ps := ["one", "other"]) fun _ _ _ _ _ _ us hl => match us, hl with | [_, _], _ => rfl
  have B5 := F5.binds (ps := ["ways"]) fun _ _ _ _ _ _ us hl => match us, hl with | [_], _ => rfl
  have B6 := F6.binds (ps := ["self"]) fun _ _ _ _ _ _ us hl => match us, hl with | [_], _ => rfl
  have B7 := F7.binds (ps := ["self", "number"]) fun _ _ _ _ _ _ us hl => match us, hl with | [_, _], _ => rfl
  have B8 := F8.binds (ps := ["self", "number", "way"]) fun _ _ _ _ _ _ us hl => match us, hl with | [_, _, _], _ => rfl
  have B9 := F9.binds (ps := ["self", "number"]) fun _ _ _ _ _ _ us hl => match us, hl with | [_, _], _ => rfl
  have B10 := F10.binds (ps := ["self", "number"]) fun _ _ _ _ _ _ us hl => match us, hl with | [_, _], _ => rfl
  have B11 := F11.binds (ps := ["self", "number"]) fun _ _ _ _ _ _ us hl => match us, hl with | [_, _], _ => rfl
  have B12 := F12.binds (ps := ["self"]) fun _ _ _ _ _ _ us hl => match us, hl with | [_], _ => rfl
  have B13 := F13.binds (ps := ["_law_script", "_law_k"]) fun _ _ _ _ _ _ us hl => match us, hl with | [_, _], _ => rfl
  have B14 := F14.binds (ps := ["_law_cell", "_law_k"]) fun _ _ _ _ _ _ us hl => match us, hl with | [_, _], _ => rfl
  have B15 := F15.binds (ps := ["_law_found"]) fun _ _ _ _ _ _ us hl => match us, hl with | [_], _ => rfl
  have B16 := F16.binds (ps := ["_law_way", "_law_end"]) fun _ _ _ _ _ _ us hl => match us, hl with | [_, _], _ => rfl
  have B17 := F17.binds (ps := ["_law_one", "_law_other"]) fun _ _ _ _ _ _ us hl => match us, hl with | [_, _], _ => rfl
  have B18 := F18.binds (ps := ["_law_cell", "_law_most"]) fun _ _ _ _ _ _ us hl => match us, hl with | [_, _], _ => rfl
  have B19 := F19.binds (ps := ["_law_script"]) fun _ _ _ _ _ _ us hl => match us, hl with | [_], _ => rfl
  have B20 := F20.binds (ps := ["_law_ways"]) fun _ _ _ _ _ _ us hl => match us, hl with | [_], _ => rfl
  have B21 := F21.binds (ps := ["_law_found", "_law_due_here"]) fun _ _ _ _ _ _ us hl => match us, hl with | [_, _], _ => rfl
  have B22 := F22.binds (ps := ["_law_ways"]) fun _ _ _ _ _ _ us hl => match us, hl with | [_], _ => rfl
  have B23 := F23.binds (ps := ["_law_book", "_law_number", "_law_way"]) fun _ _ _ _ _ _ us hl => match us, hl with | [_, _, _], _ => rfl
  have B24 := F24.binds (ps := ["_law_book", "_law_ways", "_law_order", "_law_due_here"]) fun _ _ _ _ _ _ us hl => match us, hl with | [_, _, _, _], _ => rfl
  have B25 := F25.binds (ps := ["_law_script"]) fun _ _ _ _ _ _ us hl => match us, hl with | [_], _ => rfl
  exact ⟨fun n => [f0, f1, f2, f3, f4, f5, f6, f7, f8, f9, f10, f11, f12, f13, f14, f15, f16, f17, f18, f19, f20, f21, f22, f23, f24, f25].getD n 0, fun n => [C0, C1, C2, C3].getD n 0, fun n => [PySem.W.fnOf "__init__" "Meets.__init__" (defArgs s_Meets_init) (defBody s_Meets_init) (defScope s_Meets_init) .none kV0 dc0 pm0 an0 cd0 ct0, PySem.W.fnOf "place_at" "place_at" (defArgs s_place_at) (defBody s_place_at) (defScope s_place_at) .none kV1 dc1 pm1 an1 cd1 ct1, PySem.W.fnOf "last_time" "last_time" (defArgs s_last_time) (defBody s_last_time) (defScope s_last_time) .none kV2 dc2 pm2 an2 cd2 ct2, PySem.W.fnOf "meeting_word" "meeting_word" (defArgs s_meeting_word) (defBody s_meeting_word) (defScope s_meeting_word) .none kV3 dc3 pm3 an3 cd3 ct3, PySem.W.fnOf "first_meeting" "first_meeting" (defArgs s_first_meeting) (defBody s_first_meeting) (defScope s_first_meeting) .none kV4 dc4 pm4 an4 cd4 ct4, PySem.W.fnOf "meetings" "meetings" (defArgs s_meetings) (defBody s_meetings) (defScope s_meetings) .none kV5 dc5 pm5 an5 cd5 ct5, PySem.W.fnOf "__init__" "Book.__init__" (defArgs s_Book_init) (defBody s_Book_init) (defScope s_Book_init) .none kV6 dc6 pm6 an6 cd6 ct6, PySem.W.fnOf "others" "Book.others" (defArgs s_Book_others) (defBody s_Book_others) (defScope s_Book_others) .none kV7 dc7 pm7 an7 cd7 ct7, PySem.W.fnOf "put" "Book.put" (defArgs s_Book_put) (defBody s_Book_put) (defScope s_Book_put) .none kV8 dc8 pm8 an8 cd8 ct8, PySem.W.fnOf "need" "Book.need" (defArgs s_Book_need) (defBody s_Book_need) (defScope s_Book_need) .none kV9 dc9 pm9 an9 cd9 ct9, PySem.W.fnOf "drop" "Book.drop" (defArgs s_Book_drop) (defBody s_Book_drop) (defScope s_Book_drop) .none kV10 dc10 pm10 an10 cd10 ct10, PySem.W.fnOf "way" "Book.way" (defArgs s_Book_way) (defBody s_Book_way) (defScope s_Book_way) .none kV11 dc11 pm11 an11 cd11 ct11, PySem.W.fnOf "numbers" "Book.numbers" (defArgs s_Book_numbers) (defBody s_Book_numbers) (defScope s_Book_numbers) .none kV12 dc12 pm12 an12 cd12 ct12, PySem.W.fnOf "_law_cell_at" "_law_cell_at" (defArgs s_l_cell_at) (defBody s_l_cell_at) (defScope s_l_cell_at) .none kV13 dc13 pm13 an13 cd13 ct13, PySem.W.fnOf "_law_mixed" "_law_mixed" (defArgs s_l_mixed) (defBody s_l_mixed) (defScope s_l_mixed) .none kV14 dc14 pm14 an14 cd14 ct14, PySem.W.fnOf "_law_whole" "_law_whole" (defArgs s_l_whole) (defBody s_l_whole) (defScope s_l_whole) .none kV15 dc15 pm15 an15 cd15 ct15, PySem.W.fnOf "_law_rows" "_law_rows" (defArgs s_l_rows) (defBody s_l_rows) (defScope s_l_rows) .none kV16 dc16 pm16 an16 cd16 ct16, PySem.W.fnOf "_law_meeting" "_law_meeting" (defArgs s_l_meeting) (defBody s_l_meeting) (defScope s_l_meeting) .none kV17 dc17 pm17 an17 cd17 ct17, PySem.W.fnOf "_law_drawn_way" "_law_drawn_way" (defArgs s_l_drawn_way) (defBody s_l_drawn_way) (defScope s_l_drawn_way) .none kV18 dc18 pm18 an18 cd18 ct18, PySem.W.fnOf "_law_ways_by" "_law_ways_by" (defArgs s_l_ways_by) (defBody s_l_ways_by) (defScope s_l_ways_by) .none kV19 dc19 pm19 an19 cd19 ct19, PySem.W.fnOf "_law_due" "_law_due" (defArgs s_l_due) (defBody s_l_due) (defScope s_l_due) .none kV20 dc20 pm20 an20 cd20 ct20, PySem.W.fnOf "_law_are" "_law_are" (defArgs s_l_are) (defBody s_l_are) (defScope s_l_are) .none kV21 dc21 pm21 an21 cd21 ct21, PySem.W.fnOf "_law_never" "_law_never" (defArgs s_l_never) (defBody s_l_never) (defScope s_l_never) .none kV22 dc22 pm22 an22 cd22 ct22, PySem.W.fnOf "_law_refused" "_law_refused" (defArgs s_l_refused) (defBody s_l_refused) (defScope s_l_refused) .none kV23 dc23 pm23 an23 cd23 ct23, PySem.W.fnOf "_law_put_in" "_law_put_in" (defArgs s_l_put_in) (defBody s_l_put_in) (defScope s_l_put_in) .none kV24 dc24 pm24 an24 cd24 ct24, PySem.W.fnOf "law" "law" (defArgs s_law) (defBody s_law) (defScope s_law) .none kV25 dc25 pm25 an25 cd25 ct25].getD n (PySem.W.fnOf "law" "law" (defArgs s_law) (defBody s_law) (defScope s_law) .none kV25 dc25 pm25 an25 cd25 ct25), fun n => [].getD n default,
    ⟨F0, B0, F1, PySem.W.mg_of X G a1, B1, F2, PySem.W.mg_of X G a2, B2, F3, PySem.W.mg_of X G a3, B3, F4, PySem.W.mg_of X G a4, B4, F5, PySem.W.mg_of X G a5, B5, F6, B6, F7, B7, F8, B8, F9, B9, F10, B10, F11, B11, F12, B12, F13, PySem.W.mg_of X G a13, B13, F14, PySem.W.mg_of X G a14, B14, F15, PySem.W.mg_of X G a15, B15, F16, PySem.W.mg_of X G a16, B16, F17, PySem.W.mg_of X G a17, B17, F18, PySem.W.mg_of X G a18, B18, F19, PySem.W.mg_of X G a19, B19, F20, PySem.W.mg_of X G a20, B20, F21, PySem.W.mg_of X G a21, B21, F22, PySem.W.mg_of X G a22, B22, F23, PySem.W.mg_of X G a23, B23, F24, PySem.W.mg_of X G a24, B24, F25, PySem.W.mg_of X G a25, B25, PySem.W.mg_none_of X G z0, PySem.W.mg_none_of X G z1, PySem.W.mg_none_of X G z2, PySem.W.mg_none_of X G z3, PySem.W.mg_none_of X G z4, PySem.W.mg_none_of X G z5, PySem.W.mg_none_of X G z6, PySem.W.mg_none_of X G z7, PySem.W.mg_none_of X G z8, PySem.W.mg_none_of X G z9, PySem.W.mg_none_of X G z10, PySem.W.mg_none_of X G z11, PySem.W.mg_none_of X G z12, PySem.W.mg_none_of X G z13, ⟨pgC3, hdC3, poC3, saC3⟩, PySem.W.mg_of X G aC3, ⟨mkC3, a6, i6, kcC3⟩, PySem.W.mg_of X G aC0, PySem.W.mg_of X G aC1, PySem.W.mg_of X G aC2, ⟨xaC1, xbC1, xcC1, xdC1⟩, ⟨caC2, cbC2, ccC2⟩, sx0, sx1, ⟨⟨⟨_, _, _, _, _, _, _, _, _, _, _, _, _, _, _, wlC2, wrC2⟩, wsC2, weC2, wtC2, wkC2⟩, a0, i0, wnC2⟩, ⟨uaC0, ubC0, ucC0⟩, ⟨eaC2, ebC2, ecC2, edC2, eeC2, efC2, egC2, ehC2⟩, ⟨eaC1, ebC1, ecC1, edC1, eeC1, efC1, egC1, ehC1⟩, n0, ⟨a12, i12, k12⟩, ⟨a11, i11, k11⟩, ⟨a10, i10, k10⟩, ⟨a8, i8, k8⟩, ⟨a7, i7, k7⟩, ⟨a9, i9, k9⟩⟩, rfl, rfl⟩
/-- the end: what is left is plain Lean -/
theorem walk {l : PySem.W.OpenLaw} {q : Program} {loose : List Str} {XP : (Str → Option Value) → Heap → Prop} {YP : World → Heap → Prop} {d : DefRec} {K : Params → PySem.W.Frag} (hn : l.most = some 63) (hdf : d.params.defaults = []) (hname : d.name = "law")
    (hY : ∀ (w : World) (h : Heap), YP w h → (K w.params).In h)
    (good : ∀ (ca : Nat → Addr) (ns : List Int), ns.length ≤ 63 → (∀ z ∈ ns, Builtin.Int.intBits z ≤ 1048576) → ∃ μ, F_law ca [.scr ns] [] = .val (.bl true) μ)
    (F : ∀ (w : World) (mg : Str → Option Value) (h : Heap), (K w.params).In h → h.Ns mainGlobals mg → ∃ (ad : Nat → Addr) (ca : Nat → Addr) (fd : Nat → FuncData) (tk : Nat → Tok), Tx (K w.params) mg ad ca fd tk ∧ ∀ (s : Shared) (v : Value), BindsTo s (fd 25) ⟨[v], []⟩ [("_law_script", v)]) :
    PySem.W.WalkO q loose XP YP l.row.toRowW d [] (fun f vs => PySem.call f vs) :=
  L2.walk_ofB (n := 63) (k := 6) (x := "_law_script") (CX := fun _ => CX0) (sp := fun w => fun vs H Q E => ∀ ca, spN (K w.params) 1 (F_law ca) vs H Q E) hn (by decide) hdf ⟨rfl, by decide, by decide⟩ hY
    (fun w mg fa h Y G hmg => by
      obtain ⟨ad, ca, fd, tk, T, hb⟩ := F w mg h Y G
      rw [hname] at hmg
      have e := hmg.symm.trans T.m_law
      cases e
      exact ⟨fd 25, hb, fun base _ _ => (ok_law T).imp fun vs H Q E h => h ca⟩)
    (fun w H a ns hl hb _ hS => fun ca => law_end (good ca ns hl hb) hS) fun _ _ _ _ _ z => z
end P_k15

namespace P_k15
open PySem PySem.Spec PyProof.Rows L2 Dn
section
variable {ca : Nat → Addr}
theorem run_cell_at (ns : List Int) (k : Int) (h : 0 ≤ k) (μ : Mu) : F_l_cell_at ca [.scr ns, .int k] μ = .val (.int (cellZ ns k)) μ := by
  unfold F_l_cell_at b_l_cell_at cellZ
  by_cases hk : k < ns.length
  · simp [runF, hk, gIx_scr (atI_map (f := D.int) h hk)]
  · simp [runF, hk]
theorem run_mixed (c k : Int) (hc : Cell c) (hk : -1000 ≤ k ∧ k ≤ 1000) (μ : Mu) : F_l_mixed ca [.int c, .int k] μ = .val (.int (mixZ c k)) μ := by
  unfold F_l_mixed b_l_mixed mixZ
  have h1 : ∀ μ, gMulA (.int 7919) (.int k) μ = .val (.int (7919 * k)) μ := fun μ => gMulA_small (by omega) (by omega) (by omega) (by omega)
  have h2 : ∀ μ, gMulA (.int (c + 7919 * k + 3)) (.int (c + 7919 * k + 3)) μ = .val (.int ((c + 7919 * k + 3) * (c + 7919 * k + 3))) μ := fun μ => gMulA_ok (big_mul (hc.mix hk) (hc.mix hk))
  have h3 : ∀ (z : Int) μ, gMulA (.int (z % 2147483647)) (.int 48271) μ = .val (.int (z % 2147483647 * 48271)) μ := fun z μ => gMulA_small (by omega) (by omega) (by omega) (by omega)
  simp [runF, h1, h2, h3, gMod_pos]
theorem run_whole_int (z : Int) (μ : Mu) : F_l_whole ca [.int z] μ = .val (.bl true) μ := by
  unfold F_l_whole b_l_whole
  simp [runF, kit_ii, kit_ib]
/-- the place at a time from the begin on -/
def pl (b : Int) (cs : List Int) (t : Int) : Int := nth cs (min (t - b).toNat (cs.length - 1))
def wd (x y x' y' : Int) : Option Str := if x = y then some "at" else if x = y' ∧ y = x' then some "through" else none
def W (b : Int) (cs : List Int) (b' : Int) (cs' : List Int) (t : Int) : Option Str := wd (pl b cs t) (pl b' cs' t) (pl b cs (t + 1)) (pl b' cs' (t + 1))
def wD : Option Str → D
  | none => .non
  | some x => .str x
/-- the first time from m on, and the word -/
def Fst (m : Int) (w : Int → Option Str) (d : D) : Prop := (d = .non ∧ ∀ t, m ≤ t → w t = none) ∨ ∃ t x, d = .tup [.int t, .str x] ∧ m ≤ t ∧ w t = some x ∧ ∀ u, m ≤ u → u < t → w u = none
theorem Fst.uniq {m : Int} {w : Int → Option Str} {d e : D} (h : Fst m w d) (k : Fst m w e) : d = e := by
  rcases h with ⟨rfl, h⟩ | ⟨t, x, rfl, h1, h2, h3⟩
  · rcases k with ⟨rfl, k⟩ | ⟨u, y, rfl, k1, k2, k3⟩
    · rfl
    · rw [h u k1] at k2; cases k2
  · rcases k with ⟨rfl, k⟩ | ⟨u, y, rfl, k1, k2, k3⟩
    · rw [k t h1] at h2; cases h2
    · have : t = u := by
        by_cases q1 : t < u
        · rw [k3 t h1 q1] at h2; cases h2
        · by_cases q2 : u < t
          · rw [h3 u k1 q2] at k2; cases k2
          · omega
      subst this
      rw [h2] at k2
      cases k2
      rfl
theorem wd_sym (x y x' y' : Int) : wd y x y' x' = wd x y x' y' := by
  unfold wd
  by_cases q : x = y
  · rw [if_pos q, if_pos q.symm]
  · rw [if_neg q, if_neg (fun z => q z.symm)]
    by_cases p : x = y' ∧ y = x'
    · rw [if_pos p, if_pos ⟨p.2, p.1⟩]
    · rw [if_neg p, if_neg (fun z => p ⟨z.2, z.1⟩)]
theorem W_sym (b : Int) (cs : List Int) (b' : Int) (cs' : List Int) (t : Int) : W b' cs' b cs t = W b cs b' cs' t := wd_sym ..
theorem pl_end (b : Int) (cs : List Int) (t : Int) (h : b + (cs.length : Int) - 1 ≤ t) : pl b cs t = nth cs (cs.length - 1) := by
  unfold pl
  rw [show min (t - b).toNat (cs.length - 1) = cs.length - 1 by omega]
theorem W_end (b : Int) (cs : List Int) (b' : Int) (cs' : List Int) (t e : Int) (h1 : b + (cs.length : Int) - 1 ≤ e) (h2 : b' + (cs'.length : Int) - 1 ≤ e) (h : e ≤ t) : W b cs b' cs' t = W b cs b' cs' e := by
  unfold W
  rw [pl_end b cs t (by omega), pl_end b cs e (by omega), pl_end b cs (t + 1) (by omega), pl_end b cs (e + 1) (by omega), pl_end b' cs' t (by omega), pl_end b' cs' e (by omega), pl_end b' cs' (t + 1) (by omega), pl_end b' cs' (e + 1) (by omega)]
theorem run_place_at (b t : Int) (cs : List Int) (h : cs ≠ []) (μ : Mu) : F_place_at ca [wayD b cs, .int t] μ = .val (if t < b then .non else .int (pl b cs t)) μ := by
  unfold F_place_at b_place_at pl
  have hl : 0 < cs.length := List.length_pos_iff.mpr h
  by_cases q : t < b
  · simp [runF, q]
  · have hix : gIx (.tup (mapD D.int cs)) (.int (if (cs.length : Int) - 1 < t - b then (cs.length : Int) - 1 else t - b)) μ = .val (.int (nth cs (min (t - b).toNat (cs.length - 1)))) μ := by
      refine gIx_tup ?_
      rw [atI_map (by split <;> omega) (by split <;> omega)]
      congr 3
      split <;> omega
    simp [runF, q, hix]
theorem run_last_time (b : Int) (cs : List Int) (μ : Mu) : F_last_time ca [wayD b cs] μ = .val (.int (b + (cs.length : Int) - 1)) μ := by
  unfold F_last_time b_last_time
  simp [runF]
theorem run_word (x y x' y' : Int) (μ : Mu) : F_meeting_word ca [.tup [.int x, .int y], .tup [.int x', .int y']] μ = .val (wD (wd x y x' y')) μ := by
  unfold F_meeting_word b_meeting_word wd
  by_cases q1 : x = y
  · simp [runF, q1, wD]
  · by_cases q2 : x = y'
    · by_cases q3 : y = x'
      · have q4 : ¬ y' = x' := fun z => q1 (by rw [q2, q3, z])
        simp [runF, q2, q3, wD, q4]
      · have q4 : ¬ y' = y := fun z => q1 (by rw [q2, z])
        simp [runF, q2, q3, wD, q4]
    · simp [runF, q1, q2, wD]
theorem run_first (ν : Mu) (b : Int) (cs : List Int) (b' : Int) (cs' : List Int) (h : cs ≠ []) (h' : cs' ≠ []) (hz : cs.length ≤ 1000) (hz' : cs'.length ≤ 1000) : Yes (fun d μ => Fst (max b b') (W b cs b' cs') d ∧ μ = ν) (F_first_meeting ca [wayD b cs, wayD b' cs'] ν) := by
  have hl : 0 < cs.length := List.length_pos_iff.mpr h
  have hl' : 0 < cs'.length := List.length_pos_iff.mpr h'
  obtain ⟨E, hE⟩ : ∃ E, E = max (b + (cs.length : Int) - 1) (b' + (cs'.length : Int) - 1) := ⟨_, rfl⟩
  obtain ⟨m, hm⟩ : ∃ m, m = max b b' := ⟨_, rfl⟩
  obtain ⟨ρ', μ', e, t, u, q1, q2, q3, q4, rfl, rfl⟩ := whileN_nx (c := b_first_meeting_W1 ca) (b := b_first_meeting_L1 ca) (N := FUEL) (n := (E - m).toNat) (ρ := [some (wayD b cs), some (wayD b' cs'), some (.int m), some (.int E), none, none]) (μ := ν)
    (B := fun ρ μ => ∃ (t : Int) (u : Option D), m ≤ t ∧ t ≤ E ∧ (∀ u, m ≤ u → u < t → W b cs b' cs' u = none) ∧ (W b cs b' cs' t ≠ none ∨ t = E) ∧ ρ = [some (wayD b cs), some (wayD b' cs'), some (.int t), some (.int E), u, some (wD (W b cs b' cs' t))] ∧ μ = ν)
    (fun n ρ μ => ∃ (t : Int) (u v : Option D), m ≤ t ∧ t ≤ E ∧ n = (E - t).toNat ∧ (∀ u, m ≤ u → u < t → W b cs b' cs' u = none) ∧ ρ = [some (wayD b cs), some (wayD b' cs'), some (.int t), some (.int E), u, v] ∧ μ = ν)
    (lt_fuel (by omega)) ⟨m, none, none, by omega, by omega, rfl, fun u h1 h2 => by omega, rfl, rfl⟩ (by
      rintro n ρ μ ⟨t, u, v, h1, h2, h3, h4, rfl, rfl⟩
      have p1 := fun μ => run_place_at (ca := ca) b t cs h μ
      have p2 := fun μ => run_place_at (ca := ca) b' t cs' h' μ
      have p3 := fun μ => run_place_at (ca := ca) b (t + 1) cs h μ
      have p4 := fun μ => run_place_at (ca := ca) b' (t + 1) cs' h' μ
      have n1 : ¬ t < b := by omega
      have n2 : ¬ t < b' := by omega
      have n3 : ¬ t + 1 < b := by omega
      have n4 : ¬ t + 1 < b' := by omega
      simp only [n1, n2, n3, n4, if_false] at p1 p2 p3 p4
      have hw := fun μ => run_word (ca := ca) (pl b cs t) (pl b' cs' t) (pl b cs (t + 1)) (pl b' cs' (t + 1)) μ
      have hW : wd (pl b cs t) (pl b' cs' t) (pl b cs (t + 1)) (pl b' cs' (t + 1)) = W b cs b' cs' t := rfl
      rw [hW] at hw
      unfold wturn b_first_meeting_W1 b_first_meeting_L1
      cases q : W b cs b' cs' t with
      | some x =>
        rw [q] at hw
        simp [p1, p2, p3, p4, hw, wD]
        exact ⟨t, h1, h2, h4, by rw [q]; simp, rfl, by simp [q, wD]⟩
      | none =>
        rw [q] at hw
        by_cases q5 : E ≤ t
        · simp [p1, p2, p3, p4, hw, wD, q5]
          exact ⟨t, h1, h2, h4, .inr (by omega), rfl, by simp [q, wD]⟩
        · simp [p1, p2, p3, p4, hw, wD, q5]
          refine ⟨_, by omega, t + 1, by omega, by omega, rfl, fun u g1 g2 => ?_, ⟨_, _, rfl⟩, rfl⟩
          by_cases q6 : u = t
          · rw [q6, q]
          · exact h4 u g1 (by omega))
  have hlast := fun μ => run_last_time (ca := ca) b cs μ
  have hlast' := fun μ => run_last_time (ca := ca) b' cs' μ
  have hmx : (if b' > b then b' else b) = m := by rw [hm]; split <;> omega
  have hEx : (if b' + (cs'.length : Int) > b + (cs.length : Int) then b' + (cs'.length : Int) - 1 else b + (cs.length : Int) - 1) = E := by rw [hE]; split <;> omega
  try simp only [gt_iff_lt] at hmx hEx
  unfold F_first_meeting b_first_meeting
  cases q : W b cs b' cs' t with
  | none =>
    rw [q] at e
    simp [wD] at e
    simp [runF, hlast, hlast', hmx, hEx, e]
    rw [q] at q4
    have q4 : t = E := q4.resolve_left (by simp)
    refine .inl ⟨rfl, fun u hu => ?_⟩
    by_cases g : u < t
    · exact q3 u (by omega) g
    · rw [W_end b cs b' cs' u t (by omega) (by omega) (by omega), q]
  | some x =>
    rw [q] at e
    simp [wD] at e
    simp [runF, hlast, hlast', hmx, hEx, e]
    exact .inr ⟨t, x, rfl, by omega, q, fun u g1 g2 => q3 u (by omega) g2⟩
/-- where a way is at each time from 0 to below n -/
def rowsR (b : Int) (cs : List Int) (n : Nat) : List (Option Int) := (List.range n).map fun i : Nat => if (i : Int) < b then none else some (pl b cs i)
@[simp] theorem rowsR_len (b : Int) (cs : List Int) (n : Nat) : (rowsR b cs n).length = n := by unfold rowsR; simp
theorem rowsR_get {b : Int} {cs : List Int} {n i : Nat} (h : i < n) : (rowsR b cs n)[i]? = some (if (i : Int) < b then none else some (pl b cs i)) := by
  unfold rowsR
  rw [List.getElem?_map, List.getElem?_range h]; rfl
theorem rowsR_0 {b : Int} {cs : List Int} (h0 : 0 ≤ b) : (List.replicate b.toNat [D.non]).flatten ++ mapD D.int cs = mapD oD (rowsR b cs (b.toNat + cs.length)) := by
  rw [List.flatten_replicate_singleton]
  refine List.ext_getElem? fun i => ?_
  by_cases q : i < b.toNat
  · rw [List.getElem?_append_left (by simpa using q), List.getElem?_replicate, if_pos q, mapD_get, rowsR_get (by omega), if_pos (by omega)]
    rfl
  · rw [List.getElem?_append_right (by simpa using q), List.length_replicate, mapD_get, mapD_get]
    by_cases q2 : i < b.toNat + cs.length
    · rw [rowsR_get q2, if_neg (by omega), List.getElem?_eq_getElem (by omega)]
      unfold pl
      rw [show min ((i : Int) - b).toNat (cs.length - 1) = i - b.toNat by omega, nth_eq (by omega)]
      rfl
    · rw [List.getElem?_eq_none (by omega), List.getElem?_eq_none (by simp; omega)]
      rfl
theorem rowsR_app {b : Int} {cs : List Int} {n : Nat} (h : b ≤ n) : rowsR b cs n ++ [some (pl b cs n)] = rowsR b cs (n + 1) := by
  unfold rowsR
  rw [List.range_succ, List.map_append, List.map_singleton, if_neg (by omega)]
theorem ix_row {b : Int} {cs : List Int} {n : Nat} {t : Int} (h0 : 0 ≤ t) (h1 : t < n) (μ : Mu) : gIx (.lst (mapD oD (rowsR b cs n))) (.int t) μ = .val (if t < b then .non else .int (pl b cs t)) μ := by
  refine gIx_lst ?_
  have e : ((t.toNat : Nat) : Int) = t := by omega
  rw [atI_mapD]
  have := rowsR_get (b := b) (cs := cs) (n := n) (i := t.toNat) (by omega)
  rw [e] at this
  have k := atI_nat this
  rw [e] at k
  rw [k]
  split <;> rfl
theorem run_rows (b : Int) (cs : List Int) (E : Int) (h : cs ≠ []) (h0 : 0 ≤ b) (h1 : b + (cs.length : Int) ≤ E + 1) (hE : E ≤ 5000) : F_l_rows ca [wayD b cs, .int E] [] = .val (.ref 0) [.lst (mapD oD (rowsR b cs (E + 1).toNat))] := by
  have hl : 0 < cs.length := List.length_pos_iff.mpr h
  obtain ⟨ρ', μ', e, rfl, rfl⟩ := whileN_nx (c := b_l_rows_W1 ca) (b := b_l_rows_L1 ca) (N := FUEL) (n := (E + 1 - (b + (cs.length : Int))).toNat) (ρ := [some (wayD b cs), some (.int E), some (.ref 0)]) (μ := [.lst (mapD oD (rowsR b cs (b.toNat + cs.length)))])
    (B := fun ρ μ => ρ = [some (wayD b cs), some (.int E), some (.ref 0)] ∧ μ = [.lst (mapD oD (rowsR b cs (E + 1).toNat))])
    (fun n ρ μ => ∃ k : Nat, b.toNat + cs.length ≤ k ∧ k ≤ (E + 1).toNat ∧ n = (E + 1).toNat - k ∧ ρ = [some (wayD b cs), some (.int E), some (.ref 0)] ∧ μ = [.lst (mapD oD (rowsR b cs k))])
    (lt_fuel (by omega)) ⟨_, Nat.le_refl _, by omega, by omega, rfl, rfl⟩ (by
      rintro n ρ μ ⟨k, h2, h3, h4, rfl, rfl⟩
      unfold wturn b_l_rows_W1 b_l_rows_L1
      by_cases q : (k : Int) ≤ E
      · have hk : k < 100000 := by omega
        have hix : ∀ μ : Mu, μ[0]? = some (Nd.lst (mapD oD (rowsR b cs k))) → gIx (.ref 0) (.int (-1)) μ = .val (.int (pl b cs k)) μ := fun μ hμ => by
          refine gIx_ref hμ ?_
          rw [atI_mapD]
          have e : atI (rowsR b cs k) (-1) = some (some (pl b cs k)) := by
            unfold atI ixN
            rw [if_neg (by decide), if_pos (by simp; omega)]
            rw [rowsR_len]
            show (rowsR b cs k)[(-1 + (k : Int)).toNat]? = _
            rw [rowsR_get (by omega), if_neg (by omega)]
            rw [pl_end b cs k (by omega), pl_end b cs _ (by omega)]
          rw [e]; rfl
        simp [q, hix, hk]
        refine ⟨_, by omega, k + 1, by omega, by omega, rfl, ?_⟩
        have := rowsR_app (b := b) (cs := cs) (n := k) (by omega)
        rw [← this, ← mapD_app]
        rfl
      · simp [q]
        rw [show k = (E + 1).toNat by omega])
  unfold F_l_rows b_l_rows
  have hm : ∀ μ, gMulA (.lst [.non]) (.int b) μ = .val (.lst (List.replicate b.toNat D.non)) μ := fun μ => by
    rw [← List.flatten_replicate_singleton]
    have : Rng b ∧ [D.non].length * b.toNat ≤ 100000 := ⟨⟨by omega, by omega⟩, by simp; omega⟩
    simp only [gMulA, orG, gMulI, gIc, gRepL, lsOf, if_pos this]
  have hc : ∀ μ, gCatN (.lst (List.replicate b.toNat D.non)) (.lst (mapD D.int cs)) μ = .val (.ref μ.length) (μ ++ [.lst (mapD oD (rowsR b cs (b.toNat + cs.length)))]) := fun μ => by
    rw [← List.flatten_replicate_singleton]
    have : (List.replicate b.toNat [D.non]).flatten.length + (mapD D.int cs).length ≤ 100000 := by
      rw [List.flatten_replicate_singleton, List.length_replicate, mapD_length]; omega
    simp only [gCatN, lsOf, if_pos this, rowsR_0 h0]
  try simp at e
  simp [runF, hm, hc, e]
theorem run_meeting (b : Int) (cs : List Int) (b' : Int) (cs' : List Int) (h : cs ≠ []) (h' : cs' ≠ []) (h0 : 0 ≤ b) (h0' : 0 ≤ b') (hb : b ≤ 1000) (hb' : b' ≤ 1000) (hz : cs.length ≤ 1000) (hz' : cs'.length ≤ 1000) : Yes (fun d _ => Fst (max b b') (W b cs b' cs') d) (F_l_meeting ca [wayD b cs, wayD b' cs'] []) := by
  have hl : 0 < cs.length := List.length_pos_iff.mpr h
  have hl' : 0 < cs'.length := List.length_pos_iff.mpr h'
  obtain ⟨E, hE⟩ : ∃ E : Int, E = 4 + max (b + (cs.length : Int)) (b' + (cs'.length : Int)) := ⟨_, rfl⟩
  have r1 := run_rows (ca := ca) b cs E h h0 (by omega) (by omega)
  have r2 := run_rows (ca := ca) b' cs' E h' h0' (by omega) (by omega)
  have hEx : 4 + (if b' + (cs'.length : Int) > b + (cs.length : Int) then b' + (cs'.length : Int) else b + (cs.length : Int)) = E := by rw [hE]; split <;> omega
  try simp only [gt_iff_lt] at hEx
  have loop := forR_ends (s := 5) (b := b_l_meeting_L1 ca) (lo := 0) (n := E.toNat) (ρ := [some (wayD b cs), some (wayD b' cs'), some (.int E), some (.lst (mapD oD (rowsR b cs (E + 1).toNat))), some (.lst (mapD oD (rowsR b' cs' (E + 1).toNat))), none]) (μ := [])
    (B := fun _ _ => False) (R := fun d _ => Fst (max b b') (W b cs b' cs') d)
    (fun i ρ μ => ∃ (u : Option D), ρ = [some (wayD b cs), some (wayD b' cs'), some (.int E), some (.lst (mapD oD (rowsR b cs (E + 1).toNat))), some (.lst (mapD oD (rowsR b' cs' (E + 1).toNat))), u] ∧ μ = [] ∧ ∀ t, max b b' ≤ t → t < i → W b cs b' cs' t = none) ⟨none, rfl, rfl, fun t h1 h2 => by omega⟩ (by
      rintro i ρ μ hi ⟨u, rfl, rfl, hno⟩
      have p1 := fun μ => ix_row (b := b) (cs := cs) (n := (E + 1).toNat) (t := (i : Int)) (by omega) (by omega) μ
      have p2 := fun μ => ix_row (b := b') (cs := cs') (n := (E + 1).toNat) (t := (i : Int)) (by omega) (by omega) μ
      have p3 := fun μ => ix_row (b := b) (cs := cs) (n := (E + 1).toNat) (t := (i : Int) + 1) (by omega) (by omega) μ
      have p4 := fun μ => ix_row (b := b') (cs := cs') (n := (E + 1).toNat) (t := (i : Int) + 1) (by omega) (by omega) μ
      unfold b_l_meeting_L1
      by_cases q1 : (i : Int) < b
      · simp [p1, q1]
        exact fun t g1 g2 => hno t (by omega) (by omega)
      · by_cases q2 : (i : Int) < b'
        · simp [p1, p2, q1, q2]
          exact fun t g1 g2 => hno t (by omega) (by omega)
        · have q3 : ¬ (i : Int) + 1 < b := by omega
          have q4 : ¬ (i : Int) + 1 < b' := by omega
          by_cases q5 : pl b cs i = pl b' cs' i
          · simp [p1, p2, q1, q2, q5]
            exact .inr ⟨i, "at", rfl, by omega, by unfold W wd; rw [if_pos q5], fun u g1 g2 => hno u g1 g2⟩
          · by_cases q6 : pl b cs i = pl b' cs' (i + 1) ∧ pl b' cs' i = pl b cs (i + 1)
            · have q7 : ¬ pl b' cs' (i + 1) = pl b cs (i + 1) := fun z => q5 (by rw [q6.1, q6.2, z])
              simp [p1, p2, p3, p4, q1, q2, q3, q4, q6, q7]
              exact .inr ⟨i, "through", rfl, by omega, by unfold W wd; rw [if_neg q5, if_pos q6], fun u g1 g2 => hno u g1 g2⟩
            · have hn : W b cs b' cs' i = none := by unfold W wd; rw [if_neg q5, if_neg q6]
              have hno2 : ∀ t, max b b' ≤ t → t < (i : Int) + 1 → W b cs b' cs' t = none := fun t g1 g2 => by
                by_cases q8 : t = i
                · rw [q8, hn]
                · exact hno t g1 (by omega)
              by_cases q9 : pl b cs i = pl b' cs' (i + 1)
              · have q10 : ¬ pl b' cs' i = pl b cs (i + 1) := fun z => q6 ⟨q9, z⟩
                have q11 : ¬ pl b' cs' (i + 1) = pl b' cs' i := fun z => q5 (by rw [q9, z])
                simp [p1, p2, p3, p4, q1, q2, q3, q4, q9, q10, q11]
                exact fun t g1 g2 => hno2 t (by omega) g2
              · simp [p1, p2, p3, p4, q1, q2, q3, q4, q5, q9]
                exact fun t g1 g2 => hno2 t (by omega) g2)
  have hs : Rng E := ⟨by omega, by omega⟩
  cases e : forL (gN 5) (b_l_meeting_L1 ca) ((List.range E.toNat).map fun i : Nat => D.int (0 + (i : Int))) [some (wayD b cs), some (wayD b' cs'), some (.int E), some (.lst (mapD oD (rowsR b cs (E + 1).toNat))), some (.lst (mapD oD (rowsR b' cs' (E + 1).toNat))), none] [] with
  | nx ρ' μ' =>
    rw [e] at loop
    rcases loop with ⟨u, rfl, rfl, hno⟩ | hf
    · unfold F_l_meeting b_l_meeting
      simp at e
      simp [runF, hEx, r1, r2, hs, e]
      refine .inl ⟨rfl, fun t ht => ?_⟩
      by_cases g : t < E.toNat
      · exact hno t (by omega) g
      · rw [W_end b cs b' cs' t (E - 1) (by omega) (by omega) (by omega)]
        exact hno _ (by omega) (by omega)
    · exact hf.elim
  | ret d μ' =>
    rw [e] at loop
    unfold F_l_meeting b_l_meeting
    simp at e
    simp [runF, hEx, r1, r2, hs, e]
    exact loop
  | _ => rw [e] at loop; exact loop.elim
end
end P_k15

namespace P_k15
open PySem PySem.Spec PyProof.Rows L2 Dn
open Classical
/-! ways, books of ways -/
abbrev Wy : Type := Int × List Int
def wyD (w : Wy) : D := wayD w.1 w.2
def OkW (w : Wy) : Prop := 0 ≤ w.1 ∧ w.1 ≤ 100 ∧ w.2 ≠ [] ∧ w.2.length ≤ 100
def Mt (w w' : Wy) : Prop := ∃ t, max w.1 w'.1 ≤ t ∧ W w.1 w.2 w'.1 w'.2 t ≠ none
theorem Mt.sym {w w' : Wy} (h : Mt w w') : Mt w' w := by
  obtain ⟨t, h1, h2⟩ := h
  exact ⟨t, by omega, by rw [W_sym]; exact h2⟩
abbrev Bk : Type := List (Int × Wy)
def kv (b : Bk) : List (Key × D) := b.map fun e => (.inl e.1, wyD e.2)
def keysB (b : Bk) : List Int := b.map (·.1)
def hasB (b : Bk) (k : Int) : Bool := b.any fun e => decide (e.1 = k)
def gB (b : Bk) (k : Int) : Wy := ((b.find? fun e => decide (e.1 = k)).map (·.2)).getD (0, [])
def putB (b : Bk) (k : Int) (w : Wy) : Bk := if hasB b k = true then b.map fun e => if e.1 = k then (e.1, w) else e else b ++ [(k, w)]
def dropB (b : Bk) (k : Int) : Bk := b.filter fun e => decide (e.1 ≠ k)
theorem hasB_iff {b : Bk} {k : Int} : hasB b k = true ↔ k ∈ keysB b := by
  unfold hasB keysB
  simp only [List.any_eq_true, List.mem_map, decide_eq_true_eq]
theorem valD_kv (b : Bk) (k : Int) : valD (kv b) (.inl k) = if hasB b k = true then some (wyD (gB b k)) else none := by
  unfold valD kv hasB gB
  rw [List.find?_map]
  have e : ((fun kv : Key × D => decide (kv.1 = Sum.inl k)) ∘ fun e : Int × Wy => ((Sum.inl e.1 : Key), wyD e.2)) = fun e => decide (e.1 = k) := by
    funext e
    simp
  rw [e]
  cases q : b.find? (fun e => decide (e.1 = k)) with
  | none =>
    have : b.any (fun e => decide (e.1 = k)) = false := by
      rw [List.any_eq_false]
      intro x hx
      have := List.find?_eq_none.mp q x hx
      simpa using this
    rw [this]
    rfl
  | some x =>
    have : b.any (fun e => decide (e.1 = k)) = true := by
      rw [List.any_eq_true]
      exact ⟨x, List.mem_of_find?_eq_some q, by have := List.find?_some q; simpa using this⟩
    rw [this]
    rfl
theorem putD_kv (b : Bk) (k : Int) (w : Wy) : putD (kv b) (.inl k) (wyD w) = kv (putB b k w) := by
  have e : ((kv b).any fun x => decide (x.1 = Sum.inl k)) = hasB b k := by
    unfold kv hasB
    rw [List.any_map]
    congr 1
    funext e
    simp
  unfold putD putB
  rw [e]
  split
  · unfold kv
    rw [List.map_map, List.map_map]
    apply List.map_congr_left
    intro e he
    by_cases q : e.1 = k
    · simp [q]
    · simp [q]
  · unfold kv
    rw [List.map_append]
    rfl
theorem dropD_kv (b : Bk) (k : Int) : dropD (kv b) (.inl k) = kv (dropB b k) := by
  unfold dropD dropB kv
  rw [List.filter_map]
  congr 1
  apply List.filter_congr
  intro e he
  simp
theorem keys_kv (b : Bk) : (kv b).map (·.1) = (keysB b).map Sum.inl := by
  unfold kv keysB
  rw [List.map_map, List.map_map]
  rfl
theorem gB_mem {b : Bk} {k : Int} (h : k ∈ keysB b) : (k, gB b k) ∈ b := by
  unfold keysB at h
  obtain ⟨e, he, rfl⟩ := List.mem_map.mp h
  unfold gB
  cases q : b.find? (fun x => decide (x.1 = e.1)) with
  | none =>
    have := List.find?_eq_none.mp q e he
    simp at this
  | some x =>
    have h1 := List.mem_of_find?_eq_some q
    have h2 := List.find?_some q
    simp only [decide_eq_true_eq] at h2
    simp only [Option.map_some, Option.getD_some]
    rw [← h2]
    exact h1
def kset : List Int := (List.range 20).map (fun i : Nat => 3 * (i : Int)) ++ (List.range 20).map (fun i : Nat => 1000000 - (i : Int))
theorem kset_len : kset.length = 40 := by simp [kset]
theorem nodup_len : ∀ {l D : List Int}, l.Nodup → (∀ x ∈ l, x ∈ D) → l.length ≤ D.length
  | [], D, _, _ => Nat.zero_le _
  | a :: l, D, h, s => by
    obtain ⟨h1, h2⟩ := List.nodup_cons.mp h
    have ha := s a List.mem_cons_self
    have := nodup_len (D := D.erase a) h2 fun x hx => (List.mem_erase_of_ne (fun e => h1 (by rw [← e]; exact hx))).mpr (s x (List.mem_cons_of_mem _ hx))
    rw [List.length_erase_of_mem ha] at this
    have : 0 < D.length := List.length_pos_of_mem ha
    simp only [List.length_cons]
    omega
structure BOk (b : Bk) : Prop where
  nd : (keysB b).Nodup
  ky : ∀ k ∈ keysB b, k ∈ kset
  ok : ∀ e ∈ b, OkW e.2
  ap : ∀ e ∈ b, ∀ e' ∈ b, e.1 ≠ e'.1 → ¬ Mt e.2 e'.2
theorem BOk.few {b : Bk} (h : BOk b) : b.length ≤ 40 := by
  have := nodup_len h.nd h.ky
  unfold keysB at this
  rw [List.length_map, kset_len] at this
  exact this
theorem BOk.nil : BOk [] := ⟨List.nodup_nil, by simp [keysB], by simp, by simp⟩
theorem BOk.drop {b : Bk} (h : BOk b) (k : Int) : BOk (dropB b k) := by
  have sub : ∀ e ∈ dropB b k, e ∈ b := fun e he => (List.mem_filter.mp he).1
  refine ⟨?_, fun x hx => ?_, fun e he => h.ok e (sub e he), fun e he e' he' => h.ap e (sub e he) e' (sub e' he')⟩
  · exact h.nd.sublist ((List.filter_sublist).map _)
  · obtain ⟨e, he, rfl⟩ := List.mem_map.mp hx
    exact h.ky _ (List.mem_map_of_mem (sub e he))
theorem mem_putB {b : Bk} {k : Int} {w : Wy} {e : Int × Wy} (h : e ∈ putB b k w) : e = (k, w) ∨ (e ∈ b ∧ e.1 ≠ k) := by
  unfold putB at h
  split at h
  · obtain ⟨x, hx, rfl⟩ := List.mem_map.mp h
    by_cases q : x.1 = k
    · rw [if_pos q]; exact .inl (by rw [q])
    · rw [if_neg q]; exact .inr ⟨hx, q⟩
  · rename_i hn
    rcases List.mem_append.mp h with h | h
    · refine .inr ⟨h, fun z => hn ?_⟩
      rw [hasB_iff, ← z]
      exact List.mem_map_of_mem h
    · exact .inl (List.mem_singleton.mp h)
theorem keys_putB (b : Bk) (k : Int) (w : Wy) : keysB (putB b k w) = if hasB b k = true then keysB b else keysB b ++ [k] := by
  unfold putB
  split
  · unfold keysB
    rw [List.map_map]
    apply List.map_congr_left
    intro e he
    by_cases q : e.1 = k
    · simp [q]
    · simp [q]
  · unfold keysB
    simp
theorem BOk.put {b : Bk} (h : BOk b) {k : Int} {w : Wy} (hk : k ∈ kset) (hw : OkW w) (hm : ∀ e ∈ b, e.1 ≠ k → ¬ Mt w e.2) : BOk (putB b k w) := by
  refine ⟨?_, fun x hx => ?_, fun e he => ?_, fun e he e' he' hne => ?_⟩
  · rw [keys_putB]
    split
    · exact h.nd
    · rename_i hn
      refine List.nodup_append.mpr ⟨h.nd, by simp, fun a ha c hc e => hn ?_⟩
      rw [hasB_iff]
      rw [List.mem_singleton.mp hc] at e
      rw [← e]
      exact ha
  · rw [keys_putB] at hx
    split at hx
    · exact h.ky x hx
    · rcases List.mem_append.mp hx with hx | hx
      · exact h.ky x hx
      · rw [List.mem_singleton.mp hx]; exact hk
  · rcases mem_putB he with rfl | ⟨h1, _⟩
    · exact hw
    · exact h.ok e h1
  · rcases mem_putB he with rfl | ⟨h1, h2⟩
    · rcases mem_putB he' with rfl | ⟨h3, h4⟩
      · exact absurd rfl hne
      · exact hm e' h3 h4
    · rcases mem_putB he' with rfl | ⟨h3, h4⟩
      · exact fun z => hm e h1 h2 z.sym
      · exact h.ap e h1 e' h3 hne
/-- whose way is met first, by numbers -/
noncomputable def dueO (b : Bk) (k : Int) (w : Wy) : Option Int := (srtI (keysB b)).find? fun o => decide (o ≠ k) && decide (Mt w (gB b o))
theorem dueO_none {b : Bk} {k : Int} {w : Wy} (hd : (keysB b).Nodup) (h : dueO b k w = none) : ∀ e ∈ b, e.1 ≠ k → ¬ Mt w e.2 := fun e he hk => by
  have hm : e.1 ∈ keysB b := List.mem_map_of_mem he
  have := List.find?_eq_none.mp h e.1 (srtI_mem.mpr hm)
  simp only [Bool.and_eq_true, decide_eq_true_eq, not_and] at this
  have q := this hk
  have e2 : gB b e.1 = e.2 := by
    have h1 := gB_mem hm
    unfold keysB at hd
    have key : ∀ {l : Bk}, (l.map (·.1)).Nodup → ∀ x ∈ l, ∀ y ∈ l, x.1 = y.1 → x = y := by
      intro l
      induction l with
      | nil => intro _ x hx; simp at hx
      | cons a r ih =>
        intro hn x hx y hy hxy
        rw [List.map_cons] at hn
        obtain ⟨n1, n2⟩ := List.nodup_cons.mp hn
        rcases List.mem_cons.mp hx with h1 | h1
        · rcases List.mem_cons.mp hy with h2 | h2
          · rw [h1, h2]
          · exact absurd (by rw [← h1, hxy]; exact List.mem_map_of_mem h2) n1
        · rcases List.mem_cons.mp hy with h2 | h2
          · exact absurd (by rw [← h2, ← hxy]; exact List.mem_map_of_mem h1) n1
          · exact ih n2 x h1 y h2 hxy
    exact congrArg Prod.snd (key hd _ h1 _ he rfl)
  rw [e2] at q
  exact q
theorem dueO_mem {b : Bk} {k o : Int} {w : Wy} (h : dueO b k w = some o) : o ∈ keysB b ∧ o ≠ k := by
  have h1 := List.mem_of_find?_eq_some h
  have h2 := List.find?_some h
  simp only [Bool.and_eq_true, decide_eq_true_eq] at h2
  exact ⟨srtI_mem.mp h1, h2.1⟩
/-! the walks -/
structure BkAt (ca : Nat → Addr) (μ : Mu) (n p : Nat) (b : Bk) : Prop where
  bo : μ[n]? = some (.ins 3 (ca 3) [("kept", .ref p)])
  di : μ[p]? = some (.dK (kv b))
section
variable {ca : Nat → Addr} {μ : Mu} {n p r : Nat} {b : Bk}
theorem BkAt.ins (h : BkAt ca μ n p b) : insOf ca [3] (.ref n) μ = some (n, 3, [(("kept" : Str), D.ref p)]) := by
  simp only [insOf]
  rw [h.bo]
  simp
theorem first_dec {w w' : Wy} (h : OkW w) (h' : OkW w') (μ : Mu) : ∃ d, F_first_meeting ca [wyD w, wyD w'] μ = .val d μ ∧ ∀ μ', gNotN d .non μ' = .val (.bl (decide (Mt w w'))) μ' := by
  obtain ⟨d, μ', e, hd, rfl⟩ := (run_first (ca := ca) μ w.1 w.2 w'.1 w'.2 h.2.2.1 h'.2.2.1 (by have := h.2.2.2; omega) (by have := h'.2.2.2; omega)).get
  refine ⟨d, e, fun ν => ?_⟩
  rcases hd with ⟨rfl, hn⟩ | ⟨t, x, rfl, h1, h2, h3⟩
  · have : ¬ Mt w w' := fun ⟨t, h1, h2⟩ => h2 (hn t h1)
    rw [decide_eq_false this]
    rfl
  · have : Mt w w' := ⟨t, h1, by rw [h2]; simp⟩
    rw [decide_eq_true this]
    rfl
theorem law_dec {w w' : Wy} (h : OkW w) (h' : OkW w') : ∃ d ν, F_l_meeting ca [wyD w, wyD w'] [] = .val d ν ∧ nf d = true ∧ (∀ μ, fz μ d = d) ∧ ∀ μ', gNotN d .non μ' = .val (.bl (decide (Mt w w'))) μ' := by
  obtain ⟨h1, h2, h3, h4⟩ := h
  obtain ⟨k1, k2, k3, k4⟩ := h'
  obtain ⟨d, ν, e, hd⟩ := (run_meeting (ca := ca) w.1 w.2 w'.1 w'.2 h3 k3 h1 k1 (by omega) (by omega) (by omega) (by omega)).get
  rcases hd with ⟨rfl, hn⟩ | ⟨t, x, rfl, h1, h2, h3⟩
  · refine ⟨_, ν, e, rfl, fun _ => by simp, fun μ' => ?_⟩
    have : ¬ Mt w w' := fun ⟨t, h1, h2⟩ => h2 (hn t h1)
    rw [decide_eq_false this]
    rfl
  · refine ⟨_, ν, e, by simp, fun _ => by simp, fun μ' => ?_⟩
    have : Mt w w' := ⟨t, h1, by rw [h2]; simp⟩
    rw [decide_eq_true this]
    rfl
theorem dGet_kv (h : μ[p]? = some (.dK (kv b))) (k : Int) : dGet μ p (.int k) = some (if hasB b k = true then some (wyD (gB b k)) else none) := by
  simp only [dGet, h, kOf, Option.map_some]
  rw [valD_kv]
theorem gDix_kv (h : μ[p]? = some (.dK (kv b))) {k : Int} (hk : k ∈ keysB b) : gDix (.ref p) (.int k) μ = .val (wyD (gB b k)) μ := by
  simp only [gDix, dGet_kv h, if_pos (hasB_iff.mpr hk)]
theorem gDIn_kv (h : μ[p]? = some (.dK (kv b))) (k : Int) : gDIn (.int k) (.ref p) μ = .val (.bl (hasB b k)) μ := by
  simp only [gDIn, gDInF, dGet_kv h]
  cases hasB b k <;> rfl
theorem gDNotIn_kv (h : μ[p]? = some (.dK (kv b))) (k : Int) : gDNotIn (.int k) (.ref p) μ = .val (.bl (!hasB b k)) μ := by
  simp only [gDNotIn, gDInF, dGet_kv h]
  cases hasB b k <;> rfl
theorem gSort_kv (h : μ[p]? = some (.dK (kv b))) (ok : BOk b) : gSortD [.ref p] μ = .val (.lst (mapD D.int (srtI (keysB b)))) μ := by
  have := ok.few
  have hl : (keysB b).length < 64 := by unfold keysB; rw [List.length_map]; omega
  simp only [gSortD, h, keys_kv, inlK_map, if_pos hl]
theorem gSortN_kv (h : μ[p]? = some (.dK (kv b))) (ok : BOk b) : gSortDN [.ref p] μ = .val (.ref μ.length) (μ ++ [.lst (mapD D.int (srtI (keysB b)))]) := by
  have := ok.few
  have hl : (keysB b).length < 64 := by unfold keysB; rw [List.length_map]; omega
  simp only [gSortDN, h, keys_kv, inlK_map, if_pos hl]
def othD (b : Bk) (o : Int) : D := .tup [.int o, wyD (gB b o)]
theorem run_others (h : BkAt ca μ n p b) (ok : BOk b) (k : Int) : F_Book_others ca [.ref n, .int k] μ = .val (.lst (mapD (othD b) ((srtI (keysB b)).filter fun o => decide (o ≠ k)))) μ := by
  have e1 := h.ins
  have e2 := gSort_kv h.di ok
  have hl : (srtI (keysB b)).length ≤ 50000 := by
    have := ok.few
    rw [srtI_len]
    unfold keysB
    rw [List.length_map]
    omega
  have cm := compN_filterD (s := 2) (tt := b_Book_others_W1 ca) (te := b_Book_others_C1 ca) (ρ := [some (.ref n), some (.int k), none]) (μ := μ) (f := D.int) (h := othD b) (q := fun o => decide (o ≠ k)) (xs := srtI (keysB b)) (acc := []) (fun o ho => by
    simp only [b_Book_others_W1]
    simp) (fun o ho q => by
    have e3 := gDix_kv h.di (srtI_mem.mp ho)
    simp only [b_Book_others_C1, othD]
    simp [e1, e3, -insOf])
  simp only [F_Book_others, b_Book_others, runF]
  simp [e1, e2, cm, hl, -insOf, -gSortD]
abbrev exM (ca : Nat → Addr) (o : Int) : Ex := ⟨2, .ref (ca 2), [("other", .int o)]⟩
abbrev exN (ca : Nat → Addr) : Ex := ⟨1, .ref (ca 1), []⟩
theorem put_loop (ok : BOk b) {w : Wy} (hw : OkW w) (k : Int) : ∀ (os : List Int) (x3 x4 : Option D), (∀ o ∈ os, o ∈ keysB b) →
    (os.find? (fun o => decide (o ≠ k) && decide (Mt w (gB b o))) = none → ∃ y3 y4, forL (gTp 2 (gC (gN 3) (gC (gN 4) gN0))) (b_Book_put_L1 ca) (mapD (othD b) (os.filter fun o => decide (o ≠ k))) [some (.ref n), some (.int k), some (wyD w), x3, x4] μ = .nx [some (.ref n), some (.int k), some (wyD w), y3, y4] μ) ∧
    (∀ o, os.find? (fun o => decide (o ≠ k) && decide (Mt w (gB b o))) = some o → ∃ ρ', forL (gTp 2 (gC (gN 3) (gC (gN 4) gN0))) (b_Book_put_L1 ca) (mapD (othD b) (os.filter fun o => decide (o ≠ k))) [some (.ref n), some (.int k), some (wyD w), x3, x4] μ = .exc (exM ca o) ρ' μ)
  | [], x3, x4, _ => ⟨fun _ => ⟨x3, x4, rfl⟩, fun o h => by simp at h⟩
  | o :: os, x3, x4, hs => by
    have hs' : ∀ o ∈ os, o ∈ keysB b := fun x hx => hs x (List.mem_cons_of_mem _ hx)
    by_cases q : o = k
    · have e1 : (o :: os).filter (fun o => decide (o ≠ k)) = os.filter fun o => decide (o ≠ k) := by
        rw [List.filter_cons, if_neg (by simp [q])]
      have e2 : (o :: os).find? (fun o => decide (o ≠ k) && decide (Mt w (gB b o))) = os.find? fun o => decide (o ≠ k) && decide (Mt w (gB b o)) := by
        rw [List.find?_cons_of_neg (by simp [q])]
      rw [e1, e2]
      exact put_loop ok hw k os x3 x4 hs'
    · have e1 : (o :: os).filter (fun o => decide (o ≠ k)) = o :: os.filter fun o => decide (o ≠ k) := by
        rw [List.filter_cons, if_pos (by simp [q])]
      have hgo : OkW (gB b o) := ok.ok _ (gB_mem (hs o List.mem_cons_self))
      obtain ⟨d, f1, f2⟩ := first_dec (ca := ca) hw hgo μ
      rw [e1, mapD_cons, forL_turn]
      by_cases m : Mt w (gB b o)
      · have e2 : (o :: os).find? (fun o => decide (o ≠ k) && decide (Mt w (gB b o))) = some o := by
          rw [List.find?_cons_of_pos (by simp [q, m])]
        rw [e2]
        rw [decide_eq_true m] at f2
        refine ⟨fun z => (by cases z), fun o' z => ?_⟩
        cases z
        have t : turn (gTp 2 (gC (gN 3) (gC (gN 4) gN0))) (b_Book_put_L1 ca) (othD b o) [some (.ref n), some (.int k), some (wyD w), x3, x4] μ = .exc (exM ca o) [some (.ref n), some (.int k), some (wyD w), some (.int o), some (wyD (gB b o))] μ := by
          simp only [turn, b_Book_put_L1, othD]
          simp [f1, f2]
        rw [t]
        exact ⟨_, rfl⟩
      · have e2 : (o :: os).find? (fun o => decide (o ≠ k) && decide (Mt w (gB b o))) = os.find? fun o => decide (o ≠ k) && decide (Mt w (gB b o)) := by
          rw [List.find?_cons_of_neg (by simp [m])]
        rw [e2]
        rw [decide_eq_false m] at f2
        have t : turn (gTp 2 (gC (gN 3) (gC (gN 4) gN0))) (b_Book_put_L1 ca) (othD b o) [some (.ref n), some (.int k), some (wyD w), x3, x4] μ = .nx [some (.ref n), some (.int k), some (wyD w), some (.int o), some (wyD (gB b o))] μ := by
          simp only [turn, b_Book_put_L1, othD]
          simp [f1, f2]
        rw [t]
        exact put_loop ok hw k os _ _ hs'
theorem run_put (h : BkAt ca μ n p b) (ok : BOk b) {w : Wy} (hw : OkW w) (k : Int) : F_Book_put ca [.ref n, .int k, wyD w] μ = match dueO b k w with
    | some o => .exc (exM ca o) μ
    | none => .val .non (μ.set p (.dK (kv (putB b k w)))) := by
  have e1 := h.ins
  have e2 := run_others h ok k
  obtain ⟨l1, l2⟩ := put_loop (ca := ca) (n := n) (μ := μ) ok hw k (srtI (keysB b)) none none fun o ho => srtI_mem.mp ho
  generalize mapD (othD b) ((srtI (keysB b)).filter fun o => decide (o ≠ k)) = L at e2 l1 l2
  have hp : dPut μ p (.int k) (wyD w) = some (μ.set p (.dK (kv (putB b k w)))) := by
    have := ok.few
    have hl : (kv b).length < 100000 := by unfold kv; rw [List.length_map]; omega
    simp only [dPut, h.di, kOf, Option.bind_some, if_pos hl, putD_kv]
  cases q : dueO b k w with
  | some o =>
    obtain ⟨ρ', l⟩ := l2 o q
    simp only [F_Book_put, b_Book_put, runF]
    simp [e1, e2, l, -insOf]
  | none =>
    obtain ⟨y3, y4, l⟩ := l1 q
    simp only [F_Book_put, b_Book_put, runF]
    simp [e1, e2, l, gDSet, hp, -insOf]
end
end P_k15

namespace P_k15
open PySem PySem.Spec PyProof.Rows L2 Dn
open Classical
theorem BOk.sub {b b1 : Bk} (h : BOk b) (s : List.Sublist b1 b) : BOk b1 :=
  ⟨h.nd.sublist (s.map _), fun k hk => h.ky k ((s.map _).subset hk), fun e he => h.ok e (s.subset he), fun e he e' he' => h.ap e (s.subset he) e' (s.subset he')⟩
theorem dueO_none' {b : Bk} {k : Int} {w : Wy} (h : ∀ e ∈ b, e.1 ≠ k → ¬ Mt w e.2) : dueO b k w = none := by
  refine List.find?_eq_none.mpr fun o ho => ?_
  have hm := gB_mem (srtI_mem.mp ho)
  simp only [Bool.and_eq_true, decide_eq_true_eq, not_and]
  exact fun ne => h _ hm ne
section
variable {ca : Nat → Addr} {μ : Mu} {n p r : Nat} {b : Bk}
theorem run_need (h : BkAt ca μ n p b) (k : Int) : F_Book_need ca [.ref n, .int k] μ = if hasB b k = true then .val .non μ else .exc (exN ca) μ := by
  have e1 := h.ins
  have e2 := gDNotIn_kv h.di k
  simp only [F_Book_need, b_Book_need, runF]
  cases q : hasB b k with
  | true =>
    rw [q] at e2
    simp [e1, e2, -insOf]
  | false =>
    rw [q] at e2
    simp [e1, e2, -insOf]
theorem gPop_kv (h : μ[p]? = some (.dK (kv b))) {k : Int} (hk : hasB b k = true) : gPop1 (.ref p) [.int k] μ = .val (wyD (gB b k)) (μ.set p (.dK (kv (dropB b k)))) := by
  simp only [gPop1, h, kOf, valD_kv, if_pos hk, dropD_kv]
theorem isD_ref (h : μ[p]? = some (.dK (kv b))) : tyMt "dict" (.ref p) μ = true := by
  simp only [tyMt, h]
  rfl
theorem run_drop (h : BkAt ca μ n p b) (k : Int) : F_Book_drop ca [.ref n, .int k] μ = if hasB b k = true then .val .non (μ.set p (.dK (kv (dropB b k)))) else .exc (exN ca) μ := by
  have e1 := h.ins
  have e2 := run_need h k
  have e4 := isD_ref h.di
  simp only [F_Book_drop, b_Book_drop, runF]
  cases q : hasB b k with
  | true =>
    have e3 := gPop_kv h.di q
    rw [q] at e2
    simp only [if_true] at e2
    simp [e1, e2, e3, e4, -insOf, -gPop1, -tyMt]
  | false =>
    rw [q] at e2
    simp only [Bool.false_eq_true, if_false] at e2
    simp [e1, e2, -insOf]
theorem run_way (h : BkAt ca μ n p b) (k : Int) : F_Book_way ca [.ref n, .int k] μ = if hasB b k = true then .val (wyD (gB b k)) μ else .exc (exN ca) μ := by
  have e1 := h.ins
  have e2 := run_need h k
  simp only [F_Book_way, b_Book_way, runF]
  cases q : hasB b k with
  | true =>
    have e3 := gDix_kv h.di (hasB_iff.mp q)
    rw [q] at e2
    simp only [if_true] at e2
    simp [e1, e2, e3, -insOf]
  | false =>
    rw [q] at e2
    simp only [Bool.false_eq_true, if_false] at e2
    simp [e1, e2, -insOf]
theorem run_numbers (h : BkAt ca μ n p b) (ok : BOk b) : F_Book_numbers ca [.ref n] μ = .val (.lst (mapD D.int (srtI (keysB b)))) μ := by
  have e1 := h.ins
  have e2 := gSort_kv h.di ok
  simp only [F_Book_numbers, b_Book_numbers, runF]
  simp [e1, e2, -insOf, -gSortD]
theorem run_init (μ : Mu) : F_Book_init ca [.ref μ.length] (μ ++ [.ins 3 (ca 3) []]) = .val .non (μ ++ [.ins 3 (ca 3) [("kept", .ref (μ.length + 1))], .dK []]) := by
  have e8 : insOf ca [3] (.ref μ.length) (μ ++ [.ins 3 (ca 3) [], .dK []]) = some (μ.length, 3, []) := by
    simp [insOf]
  have e9 : (μ ++ [Nd.ins 3 (ca 3) [], .dK []]).set μ.length (.ins 3 (ca 3) [("kept", .ref (μ.length + 1))]) = μ ++ [Nd.ins 3 (ca 3) [("kept", .ref (μ.length + 1))], .dK []] := by
    rw [List.set_append_right _ _ (Nat.le_refl _)]
    simp
  simp only [F_Book_init, b_Book_init, runF]
  simp [e8, eNewK, e9, -insOf]
end
end P_k15

namespace P_k15
open PySem PySem.Spec PyProof.Rows L2 Dn
open Classical
/-! rows, sorted -/
abbrev Row : Type := Int × Int × Int × Str
def rowD (r : Row) : D := .tup [.int r.1, .int r.2.1, .int r.2.2.1, .str r.2.2.2]
def rowP (r : Row) : PyData := .tuple [.int r.1, .int r.2.1, .int r.2.2.1, .str r.2.2.2]
theorem toPy_row (r : Row) : toPy (rowD r) = some (rowP r) := by simp [rowD, rowP, toPy, toPyL]
theorem pyD_row (r : Row) : pyD (rowD r) = rowP r := by unfold pyD; rw [toPy_row]; rfl
theorem toks_row (r : Row) : PySem.W.keyToks (rowP r) = [.inl 1, .inl r.1, .inl 1, .inl r.2.1, .inl 1, .inl r.2.2.1, .inl 1, .inr r.2.2.2.cps.toList, .inl 0] := by
  simp [rowP, PySem.W.keyToks, PySem.W.keyToksAll]
theorem row_eq {r r' : Row} (h : PySem.W.keyToks (rowP r) = PySem.W.keyToks (rowP r')) : r = r' := by
  rw [toks_row, toks_row] at h
  obtain ⟨a, b, c, x⟩ := r
  obtain ⟨a', b', c', x'⟩ := r'
  simp only [List.cons.injEq, Sum.inl.injEq, Sum.inr.injEq, and_true, true_and] at h
  obtain ⟨h1, h2, h3, h4⟩ := h
  rw [h1, h2, h3, PySem.W.str_of_cps h4]
theorem srtP_rows {R R' : List Row} (h : R.Perm R') : srtP (mapD rowD R) = srtP (mapD rowD R') := by
  have T := PySem.W.sortLe_total (listOrd itemOrd) false fun b : D => PySem.W.keyToks (pyD b)
  have up : ∀ l : List D, (srtP l).Pairwise fun a b => PySem.W.dataLe false pyD a b = true := fun l => List.pairwise_mergeSort (fun a b c h1 h2 => T.trans a b c h1 h2) (fun a b => by
    rw [Bool.or_eq_true]
    exact T.total a b) l
  have pm : ∀ l : List D, (srtP l).Perm l := fun l => List.mergeSort_perm l _
  have hp : (mapD rowD R).Perm (mapD rowD R') := h.map rowD
  refine List.Perm.eq_of_pairwise (le := fun a b => PySem.W.dataLe false pyD a b = true) (fun a b ha hb h1 h2 => ?_) (up _) (up _) (((pm _).trans hp).trans (pm _).symm)
  obtain ⟨r, _, rfl⟩ := mapD_mem.mp ((pm _).mem_iff.mp ha)
  obtain ⟨r', _, rfl⟩ := mapD_mem.mp ((pm _).mem_iff.mp hb)
  unfold PySem.W.dataLe PySem.W.sortLe at h1 h2
  simp only [cond_false, Bool.not_eq_true'] at h1 h2
  rw [pyD_row, pyD_row] at h1 h2
  rw [row_eq (lex_total (O := itemOrd) _ _ h2 h1)]
theorem toPyL_rows (R : List Row) : toPyL (mapD rowD R) = some (R.map rowP) := by
  induction R with
  | nil => rfl
  | cons r R ih => rw [mapD_cons, toPyL, toPy_row, ih]; rfl
theorem rowOk_rows (R : List Row) : rowOk (R.map rowP) = true := by
  unfold rowOk
  rw [Bool.and_eq_true, List.all_eq_true, List.all_eq_true]
  refine ⟨fun p hp => List.all_eq_true.mpr fun q hq => ?_, fun p hp => ?_⟩
  · obtain ⟨r, _, rfl⟩ := List.mem_map.mp hp
    obtain ⟨r', _, rfl⟩ := List.mem_map.mp hq
    simp [rowP, PySem.W.alike, PySem.W.alikeAll]
  · obtain ⟨r, _, rfl⟩ := List.mem_map.mp hp
    simp [rowP, PyData.depth, PyData.depthAll]
/-- the rows, rising -/
noncomputable def srtR (R : List Row) : List Row := R.mergeSort fun a b => PySem.W.dataLe false pyD (rowD a) (rowD b)
theorem srtP_srtR (R : List Row) : srtP (mapD rowD R) = mapD rowD (srtR R) := by
  unfold srtP srtR mapD
  rw [map_mergeSort rowD (PySem.W.dataLe false pyD)]
theorem srtR_mem {R : List Row} {r : Row} : r ∈ srtR R ↔ r ∈ R := List.mem_mergeSort
theorem srtR_len (R : List Row) : (srtR R).length = R.length := List.length_mergeSort _
theorem gSortP_rows {R : List Row} {μ : Mu} {d : D} (h : lsOf d μ = some (mapD rowD R)) : gSortP [d] μ = .val (.lst (mapD rowD (srtR R))) μ := by
  simp only [gSortP, h, toPyL_rows, if_pos (rowOk_rows R), srtP_srtR]
theorem gSortPN_rows {R : List Row} {μ : Mu} {d : D} (h : lsOf d μ = some (mapD rowD R)) : gSortPN [d] μ = .val (.ref μ.length) (μ ++ [.lst (mapD rowD (srtR R))]) := by
  simp only [gSortPN, h, toPyL_rows, if_pos (rowOk_rows R), srtP_srtR]
theorem rowD_inj {r r' : Row} (h : rowD r = rowD r') : r = r' := by
  obtain ⟨a, b, c, x⟩ := r
  obtain ⟨a', b', c', x'⟩ := r'
  unfold rowD at h
  simp only [D.tup.injEq, List.cons.injEq, D.int.injEq, D.str.injEq, and_true] at h
  obtain ⟨h1, h2, h3, h4⟩ := h
  rw [h1, h2, h3, h4]
theorem srtR_perm {R R' : List Row} (h : R.Perm R') : srtR R = srtR R' := by
  have := srtP_rows h
  rw [srtP_srtR, srtP_srtR] at this
  have inj : ∀ {a b : List Row}, mapD rowD a = mapD rowD b → a = b := by
    intro a
    induction a with
    | nil =>
      intro b h
      cases b with
      | nil => rfl
      | cons b r => rw [mapD_cons, mapD_nil] at h; cases h
    | cons a r ih =>
      intro b h
      cases b with
      | nil => rw [mapD_cons, mapD_nil] at h; cases h
      | cons b r' =>
        rw [mapD_cons, mapD_cons, List.cons.injEq] at h
        rw [rowD_inj h.1, ih h.2]
  exact inj this
/-! the first meeting -/
def FstP (w w' : Wy) (p : Int × Str) : Prop := max w.1 w'.1 ≤ p.1 ∧ W w.1 w.2 w'.1 w'.2 p.1 = some p.2 ∧ ∀ u, max w.1 w'.1 ≤ u → u < p.1 → W w.1 w.2 w'.1 w'.2 u = none
noncomputable def mtO (w w' : Wy) : Option (Int × Str) := if h : ∃ p, FstP w w' p then some h.choose else none
def mtD : Option (Int × Str) → D
  | none => .non
  | some p => .tup [.int p.1, .str p.2]
theorem mtO_of {w w' : Wy} {d : D} (h : Fst (max w.1 w'.1) (W w.1 w.2 w'.1 w'.2) d) : d = mtD (mtO w w') := by
  refine Fst.uniq h ?_
  unfold mtO
  split
  · rename_i q
    obtain ⟨h1, h2, h3⟩ := q.choose_spec
    exact .inr ⟨_, _, rfl, h1, h2, h3⟩
  · rename_i q
    rcases h with ⟨rfl, h⟩ | ⟨t, x, rfl, h1, h2, h3⟩
    · exact .inl ⟨rfl, h⟩
    · exact absurd ⟨(t, x), h1, h2, h3⟩ q
theorem mtO_Mt {w w' : Wy} (h : OkW w) (h' : OkW w') : mtO w w' = none ↔ ¬ Mt w w' := by
  obtain ⟨d, μ', e, hd, rfl⟩ := (run_first (ca := fun _ => 0) [] w.1 w.2 w'.1 w'.2 h.2.2.1 h'.2.2.1 (by have := h.2.2.2; omega) (by have := h'.2.2.2; omega)).get
  have ed := mtO_of hd
  rcases hd with ⟨rfl, hn⟩ | ⟨t, x, rfl, h1, h2, h3⟩
  · have e1 : mtO w w' = none := by
      cases q : mtO w w' with
      | none => rfl
      | some p => rw [q] at ed; cases ed
    exact ⟨fun _ ⟨t, g1, g2⟩ => g2 (hn t g1), fun _ => e1⟩
  · have : Mt w w' := ⟨t, h1, by rw [h2]; simp⟩
    refine ⟨fun z => ?_, fun z => absurd this z⟩
    rw [z] at ed
    cases ed
theorem run_first_row {ca : Nat → Addr} {w w' : Wy} (h : OkW w) (h' : OkW w') (μ : Mu) : F_first_meeting ca [wyD w, wyD w'] μ = .val (mtD (mtO w w')) μ := by
  obtain ⟨d, μ', e, hd, rfl⟩ := (run_first (ca := ca) μ w.1 w.2 w'.1 w'.2 h.2.2.1 h'.2.2.1 (by have := h.2.2.2; omega) (by have := h'.2.2.2; omega)).get
  rw [← mtO_of hd]
  exact e
theorem run_meeting_row {ca : Nat → Addr} {w w' : Wy} (h : OkW w) (h' : OkW w') : ∃ ν, F_l_meeting ca [wyD w, wyD w'] [] = .val (mtD (mtO w w')) ν := by
  obtain ⟨h1, h2, h3, h4⟩ := h
  obtain ⟨k1, k2, k3, k4⟩ := h'
  obtain ⟨d, ν, e, hd⟩ := (run_meeting (ca := ca) w.1 w.2 w'.1 w'.2 h3 k3 h1 k1 (by omega) (by omega) (by omega) (by omega)).get
  rw [← mtO_of hd]
  exact ⟨ν, e⟩
/-! the pairs -/
def prs1 (ks : List Int) : List (Int × Int) := ks.flatMap fun a => (ks.filter fun b => decide (a < b)).map fun b => (a, b)
def prs2 : List Int → List (Int × Int)
  | [] => []
  | a :: r => (r.map fun b => (a, b)) ++ prs2 r
noncomputable def rowO (ws : Bk) (p : Int × Int) : Option Row := (mtO (gB ws p.1) (gB ws p.2)).map fun q => (q.1, p.1, p.2, q.2)
theorem mem_prs1 {ks : List Int} {p : Int × Int} : p ∈ prs1 ks ↔ p.1 ∈ ks ∧ p.2 ∈ ks ∧ p.1 < p.2 := by
  unfold prs1
  simp only [List.mem_flatMap, List.mem_map, List.mem_filter, decide_eq_true_eq]
  constructor
  · rintro ⟨a, ha, b, ⟨hb, hlt⟩, rfl⟩
    exact ⟨ha, hb, hlt⟩
  · rintro ⟨h1, h2, h3⟩
    exact ⟨p.1, h1, p.2, ⟨h2, h3⟩, rfl⟩
theorem mem_prs2 : ∀ {ks : List Int} {p : Int × Int}, ks.Pairwise (· < ·) → (p ∈ prs2 ks ↔ p.1 ∈ ks ∧ p.2 ∈ ks ∧ p.1 < p.2)
  | [], p, _ => by simp [prs2]
  | a :: r, p, h => by
    obtain ⟨h1, h2⟩ := List.pairwise_cons.mp h
    unfold prs2
    rw [List.mem_append, mem_prs2 h2, List.mem_map]
    constructor
    · rintro (⟨b, hb, rfl⟩ | ⟨g1, g2, g3⟩)
      · exact ⟨List.mem_cons_self, List.mem_cons_of_mem _ hb, h1 b hb⟩
      · exact ⟨List.mem_cons_of_mem _ g1, List.mem_cons_of_mem _ g2, g3⟩
    · rintro ⟨g1, g2, g3⟩
      rcases List.mem_cons.mp g2 with e | g2
      · rcases List.mem_cons.mp g1 with e' | g1
        · omega
        · have := h1 _ g1
          omega
      · rcases List.mem_cons.mp g1 with e' | g1
        · exact .inl ⟨p.2, g2, by rw [← e']⟩
        · exact .inr ⟨g1, g2, g3⟩
theorem nodup_map {α β : Type} {f : α → β} (hf : ∀ a b, f a = f b → a = b) : ∀ {l : List α}, l.Nodup → (l.map f).Nodup
  | [], _ => List.nodup_nil
  | a :: l, h => by
    obtain ⟨h1, h2⟩ := List.nodup_cons.mp h
    rw [List.map_cons]
    refine List.nodup_cons.mpr ⟨fun z => ?_, nodup_map hf h2⟩
    obtain ⟨b, hb, e⟩ := List.mem_map.mp z
    exact h1 (by rw [← hf _ _ e]; exact hb)
theorem nodup_prs2 : ∀ {ks : List Int}, ks.Nodup → (prs2 ks).Nodup
  | [], _ => List.nodup_nil
  | a :: r, h => by
    obtain ⟨h1, h2⟩ := List.nodup_cons.mp h
    unfold prs2
    refine List.nodup_append.mpr ⟨nodup_map (fun x y e => (Prod.mk.inj e).2) h2, nodup_prs2 h2, fun p hp q hq e => ?_⟩
    obtain ⟨b, hb, rfl⟩ := List.mem_map.mp hp
    have sub : ∀ {l : List Int} {p : Int × Int}, p ∈ prs2 l → p.1 ∈ l := by
      intro l
      induction l with
      | nil => intro p h; simp [prs2] at h
      | cons c l ih =>
        intro p h
        unfold prs2 at h
        rcases List.mem_append.mp h with h | h
        · obtain ⟨b, _, rfl⟩ := List.mem_map.mp h
          exact List.mem_cons_self
        · exact List.mem_cons_of_mem _ (ih h)
    have := sub hq
    rw [← e] at this
    exact h1 this
theorem nodup_prs1g (ks : List Int) (hk : ks.Nodup) : ∀ {l : List Int}, l.Nodup → (l.flatMap fun a => (ks.filter fun b => decide (a < b)).map fun b => (a, b)).Nodup
  | [], _ => List.nodup_nil
  | a :: r, h => by
    obtain ⟨h1, h2⟩ := List.nodup_cons.mp h
    rw [List.flatMap_cons]
    refine List.nodup_append.mpr ⟨nodup_map (fun x y e => (Prod.mk.inj e).2) (hk.sublist List.filter_sublist), nodup_prs1g ks hk h2, fun p hp q hq e => ?_⟩
    obtain ⟨b, hb, rfl⟩ := List.mem_map.mp hp
    simp only [List.mem_flatMap, List.mem_map] at hq
    obtain ⟨c, hc, b', _, e'⟩ := hq
    rw [← e] at e'
    rw [(Prod.mk.inj e').1] at hc
    exact h1 hc
theorem srtI_lt {ks : List Int} (h : ks.Nodup) : (srtI ks).Pairwise (· < ·) := by
  have nd : (srtI ks).Nodup := (srtI_perm ks).nodup_iff.mpr h
  have up := srtI_up ks
  exact (up.and nd).imp fun ⟨a, b⟩ => by omega
theorem prs_perm {ks : List Int} (h : ks.Nodup) : (prs1 ks).Perm (prs2 (srtI ks)) := by
  have nd : (srtI ks).Nodup := (srtI_perm ks).nodup_iff.mpr h
  refine (List.perm_ext_iff_of_nodup (nodup_prs1g ks h h) (nodup_prs2 nd)).mpr fun p => ?_
  show p ∈ prs1 ks ↔ _
  rw [mem_prs1, mem_prs2 (srtI_lt h), srtI_mem, srtI_mem]
/-- all meetings, rising -/
noncomputable def due (ws : Bk) : List Row := srtR ((prs1 (keysB ws)).filterMap (rowO ws))
theorem due_eq {ws : Bk} (h : (keysB ws).Nodup) : srtR ((prs2 (srtI (keysB ws))).filterMap (rowO ws)) = due ws := srtR_perm ((prs_perm h).symm.filterMap _)
theorem mem_due {ws : Bk} {r : Row} : r ∈ due ws ↔ r.2.1 ∈ keysB ws ∧ r.2.2.1 ∈ keysB ws ∧ r.2.1 < r.2.2.1 ∧ mtO (gB ws r.2.1) (gB ws r.2.2.1) = some (r.1, r.2.2.2) := by
  unfold due
  rw [srtR_mem, List.mem_filterMap]
  constructor
  · rintro ⟨p, hp, e⟩
    obtain ⟨h1, h2, h3⟩ := mem_prs1.mp hp
    unfold rowO at e
    obtain ⟨q, hq, rfl⟩ := Option.map_eq_some_iff.mp e
    exact ⟨h1, h2, h3, hq⟩
  · rintro ⟨h1, h2, h3, h4⟩
    exact ⟨(r.2.1, r.2.2.1), mem_prs1.mpr ⟨h1, h2, h3⟩, by unfold rowO; rw [h4]; rfl⟩
end P_k15

namespace P_k15
open PySem PySem.Spec PyProof.Rows L2 Dn
open Classical
structure WOk (ws : Bk) : Prop where
  nd : (keysB ws).Nodup
  ky : ∀ k ∈ keysB ws, k ∈ kset
  ok : ∀ e ∈ ws, OkW e.2
theorem WOk.few {b : Bk} (h : WOk b) : b.length ≤ 40 := by
  have := nodup_len h.nd h.ky
  unfold keysB at this
  rw [List.length_map, kset_len] at this
  exact this
theorem BOk.w {b : Bk} (h : BOk b) : WOk b := ⟨h.nd, h.ky, h.ok⟩
theorem WOk.at_ {b : Bk} (h : WOk b) {k : Int} (hk : k ∈ keysB b) : OkW (gB b k) := h.ok _ (gB_mem hk)
theorem nf_mtD (q : Option (Int × Str)) : nf (mtD q) = true := by cases q <;> simp [mtD]
theorem fz_mtD (q : Option (Int × Str)) (μ : Mu) : fz μ (mtD q) = mtD q := by cases q <;> simp [mtD]
theorem nf_wy (w : Wy) : nf (wyD w) = true := by simp [wyD]
section
variable {ca : Nat → Addr} {μ : Mu} {n p r m : Nat} {ws : Bk}
theorem gDix_lk {o : Obj} {vs : List (Key × V)} (h : μ[p]? = some (.lkK o vs (kv ws))) {k : Int} (hk : k ∈ keysB ws) : gDix (.ref p) (.int k) μ = .val (wyD (gB ws k)) μ := by
  simp only [gDix, dGet, h, kOf, Option.map_some, valD_kv, if_pos (hasB_iff.mpr hk)]
theorem gSortW (h : μ[p]? = some (.dK (kv ws))) (ok : WOk ws) : gSortD [.ref p] μ = .val (.lst (mapD D.int (srtI (keysB ws)))) μ := by
  have := ok.few
  have hl : (keysB ws).length < 64 := by unfold keysB; rw [List.length_map]; omega
  simp only [gSortD, h, keys_kv, inlK_map, if_pos hl]
noncomputable def dD (ws : Bk) (a b : Int) : D := if a < b then mtD (mtO (gB ws a) (gB ws b)) else .non
def lst1 : List Int → Option D → Option D
  | [], x => x
  | b :: r, _ => lst1 r (some (.int b))
noncomputable def lst4 (ws : Bk) (a : Int) : List Int → Option D → Option D
  | [], x => x
  | b :: r, _ => lst4 ws a r (some (dD ws a b))
noncomputable def outL (ws : Bk) (ks : List Int) : List Int → Option D × Option D × Option D → Option D × Option D × Option D
  | [], x => x
  | a :: r, x => outL ws ks r (some (.int a), lst1 ks x.2.1, lst4 ws a ks x.2.2)
def rowA (R : List Row) (o : Option Row) : List Row := R ++ o.toList
theorem due_body (W : WOk ws) {a b : Int} (ha : a ∈ keysB ws) (hb : b ∈ keysB ws) (hd : ∀ k ∈ keysB ws, gDix (.ref r) (.int k) μ = .val (wyD (gB ws k)) μ) {R : List Row} (hm : μ[m]? = some (.lst (mapD rowD R))) (hl : R.length < 5000) (x3 x4 : Option D) :
    turn (gN 3) (b_l_due_L1 ca) (.int b) [some (.ref r), some (.ref m), some (.int a), x3, x4] μ = .nx [some (.ref r), some (.ref m), some (.int a), some (.int b), some (dD ws a b)] (μ.set m (.lst (mapD rowD (R ++ (if a < b then rowO ws (a, b) else none).toList)))) := by
  have e1 := hd a ha
  have e2 := hd b hb
  obtain ⟨ν, f1⟩ := run_meeting_row (ca := ca) (W.at_ ha) (W.at_ hb)
  by_cases q : a < b
  · cases q2 : mtO (gB ws a) (gB ws b) with
    | none =>
      rw [q2] at f1
      have e0 : dD ws a b = .non := by unfold dD; rw [if_pos q, q2]; rfl
      rw [e0]
      have e : (if a < b then rowO ws (a, b) else none) = none := by rw [if_pos q]; unfold rowO; rw [q2]; rfl
      rw [e]
      have e3 : μ.set m (.lst (mapD rowD (R ++ (none : Option Row).toList))) = μ := by
        rw [Option.toList_none, List.append_nil]
        exact set_same hm
      rw [e3]
      simp only [turn, b_l_due_L1]
      simp [q, e1, e2, f1, nf_wy, mtD]
    | some z =>
      rw [q2] at f1
      have e0 : dD ws a b = mtD (some z) := by unfold dD; rw [if_pos q, q2]
      rw [e0]
      have e : (if a < b then rowO ws (a, b) else none) = some (z.1, a, b, z.2) := by rw [if_pos q]; unfold rowO; rw [q2]; rfl
      rw [e]
      have ap : gAppend (.ref m) [rowD (z.1, a, b, z.2)] μ = .val .non (μ.set m (.lst (mapD rowD (R ++ [(z.1, a, b, z.2)])))) := by
        have hz : (mapD rowD R).length < 100000 := by rw [mapD_length]; omega
        simp only [gAppend, hm, if_pos hz, mapD_snoc]
      have ty : tyMt "list" (.ref m) μ = true := isL_ref hm
      simp only [rowD] at ap
      simp only [turn, b_l_due_L1, Option.toList_some]
      simp [q, e1, e2, f1, nf_wy, mtD, ap, ty, -gAppend, -tyMt]
  · have e0 : dD ws a b = .non := by unfold dD; rw [if_neg q]
    rw [e0, if_neg q]
    have e3 : μ.set m (.lst (mapD rowD (R ++ (none : Option Row).toList))) = μ := by
      rw [Option.toList_none, List.append_nil]
      exact set_same hm
    rw [e3]
    simp only [turn, b_l_due_L1]
    simp [q]
theorem fm_snoc (ws : Bk) (R : List Row) (a b : Int) (bs : List Int) : (R ++ (if a < b then rowO ws (a, b) else none).toList) ++ (((bs.filter fun b => decide (a < b)).map fun b => (a, b)).filterMap (rowO ws)) = R ++ ((((b :: bs).filter fun b => decide (a < b)).map fun b => (a, b)).filterMap (rowO ws)) := by
  by_cases q : a < b
  · rw [if_pos q, List.filter_cons, if_pos (by simpa using q), List.map_cons, List.filterMap_cons]
    cases rowO ws (a, b) with
    | none => simp
    | some r => simp
  · rw [if_neg q, List.filter_cons, if_neg (by simpa using q)]
    simp
theorem due_in (W : WOk ws) {o : Obj} {vs : List (Key × V)} {a : Int} (ha : a ∈ keysB ws) (hrm : m ≠ r) : ∀ (bs : List Int) (R : List Row) (M : Mu) (x3 x4 : Option D), (∀ k ∈ bs, k ∈ keysB ws) → R.length + bs.length ≤ 5000 → M[r]? = some (.lkK o vs (kv ws)) → M[m]? = some (.lst (mapD rowD R)) →
    forK r (.lkK o vs (kv ws)) (gN 3) (b_l_due_L1 ca) (mapD D.int bs) [some (.ref r), some (.ref m), some (.int a), x3, x4] M = .nx [some (.ref r), some (.ref m), some (.int a), lst1 bs x3, lst4 ws a bs x4] (M.set m (.lst (mapD rowD (R ++ (((bs.filter fun b => decide (a < b)).map fun b => (a, b)).filterMap (rowO ws))))))
  | [], R, M, x3, x4, hs, hl, hr, hm => by
    simp only [List.filter_nil, List.map_nil, List.filterMap_nil, List.append_nil]
    rw [set_same hm]
    simp only [mapD_nil, forK, if_pos hr, lst1, lst4]
  | b :: bs, R, M, x3, x4, hs, hl, hr, hm => by
    have hb := hs b List.mem_cons_self
    rw [List.length_cons] at hl
    have t := due_body (ca := ca) (r := r) (m := m) W ha hb (fun k hk => gDix_lk hr hk) hm (by omega) x3 x4
    have l := due_in W (o := o) (vs := vs) ha hrm bs (R ++ (if a < b then rowO ws (a, b) else none).toList) (M.set m (.lst (mapD rowD (R ++ (if a < b then rowO ws (a, b) else none).toList)))) (some (.int b)) (some (dD ws a b)) (fun k hk => hs k (List.mem_cons_of_mem _ hk)) (by
      have : (if a < b then rowO ws (a, b) else none).toList.length ≤ 1 := by cases (if a < b then rowO ws (a, b) else none) <;> simp
      rw [List.length_append]
      omega) (get_set hr (Ne.symm hrm)) (get_at hm)
    rw [List.set_set, fm_snoc] at l
    rw [mapD_cons]
    simp only [lst1, lst4]
    simp only [forK, if_pos hr]
    unfold turn at t
    cases e2 : gN 3 (D.int b) [some (.ref r), some (.ref m), some (.int a), x3, x4] M with
    | none => rw [e2] at t; cases t
    | some pp =>
      rw [e2] at t
      simp only at t ⊢
      rw [t]
      simp only
      exact l
theorem keysD_kv (ws : Bk) : ((kv ws).map fun p => kD p.1) = mapD D.int (keysB ws) := by
  unfold kv keysB mapD
  rw [List.map_map, List.map_map]
  rfl
theorem due_turn (W : WOk ws) {o : Obj} {vs : List (Key × V)} {a : Int} (ha : a ∈ keysB ws) (hrm : m ≠ r) {R : List Row} (hl : R.length ≤ 4000) (hr : μ[r]? = some (.lkK o vs (kv ws))) (hm : μ[m]? = some (.lst (mapD rowD R))) (x2 x3 x4 : Option D) :
    turn (gN 2) (b_l_due_L2 ca) (.int a) [some (.ref r), some (.ref m), x2, x3, x4] μ = .nx [some (.ref r), some (.ref m), some (.int a), lst1 (keysB ws) x3, lst4 ws a (keysB ws) x4] (μ.set m (.lst (mapD rowD (R ++ ((((keysB ws).filter fun b => decide (a < b)).map fun b => (a, b)).filterMap (rowO ws)))))) := by
  have hf := W.few
  have l := due_in (ca := ca) W (o := o) (vs := vs) ha hrm (keysB ws) R μ x3 x4 (fun k hk => hk) (by unfold keysB; rw [List.length_map]; omega) hr hm
  simp only [turn, b_l_due_L2, sForKL]
  simp only [gN, List.set_cons_succ, List.set_cons_zero, eVar, List.getElem?_cons_zero, hr, keysD_kv]
  simp [hr, keysD_kv, l]
theorem due_out (W : WOk ws) {o : Obj} {vs : List (Key × V)} (hrm : m ≠ r) : ∀ (as : List Int) (R : List Row) (M : Mu) (x2 x3 x4 : Option D), (∀ k ∈ as, k ∈ keysB ws) → R.length + 40 * as.length ≤ 4000 → M[r]? = some (.lkK o vs (kv ws)) → M[m]? = some (.lst (mapD rowD R)) →
    forK r (.lkK o vs (kv ws)) (gN 2) (b_l_due_L2 ca) (mapD D.int as) [some (.ref r), some (.ref m), x2, x3, x4] M = .nx [some (.ref r), some (.ref m), (outL ws (keysB ws) as (x2, x3, x4)).1, (outL ws (keysB ws) as (x2, x3, x4)).2.1, (outL ws (keysB ws) as (x2, x3, x4)).2.2] (M.set m (.lst (mapD rowD (R ++ ((as.flatMap fun a => ((keysB ws).filter fun b => decide (a < b)).map fun b => (a, b)).filterMap (rowO ws))))))
  | [], R, M, x2, x3, x4, hs, hl, hr, hm => by
    simp only [List.flatMap_nil, List.filterMap_nil, List.append_nil]
    rw [set_same hm]
    simp only [mapD_nil, forK, if_pos hr, outL]
  | a :: as, R, M, x2, x3, x4, hs, hl, hr, hm => by
    rw [List.length_cons] at hl
    have t := due_turn (ca := ca) W (o := o) (vs := vs) (hs a List.mem_cons_self) hrm (by omega) hr hm x2 x3 x4
    have hz : ((((keysB ws).filter fun b => decide (a < b)).map fun b => (a, b)).filterMap (rowO ws)).length ≤ 40 := by
      refine Nat.le_trans (List.length_filterMap_le _ _) ?_
      rw [List.length_map]
      refine Nat.le_trans (List.length_filter_le _ _) ?_
      unfold keysB
      rw [List.length_map]
      exact W.few
    have l := due_out W (o := o) (vs := vs) hrm as (R ++ ((((keysB ws).filter fun b => decide (a < b)).map fun b => (a, b)).filterMap (rowO ws))) _ (some (.int a)) (lst1 (keysB ws) x3) (lst4 ws a (keysB ws) x4) (fun k hk => hs k (List.mem_cons_of_mem _ hk)) (by rw [List.length_append]; omega) (get_set hr (Ne.symm hrm)) (get_at hm)
    rw [List.set_set, List.append_assoc, ← List.filterMap_append] at l
    rw [mapD_cons, List.flatMap_cons]
    simp only [outL]
    simp only [forK, if_pos hr]
    unfold turn at t
    cases e2 : gN 2 (D.int a) [some (.ref r), some (.ref m), x2, x3, x4] M with
    | none => rw [e2] at t; cases t
    | some pp =>
      rw [e2] at t
      simp only at t ⊢
      rw [t]
      simp only
      exact l
theorem run_due (W : WOk ws) (hr : μ[r]? = some (.dK (kv ws))) : F_l_due ca [.ref r] μ = .val (.lst (mapD rowD (due ws))) (μ ++ [.lst (mapD rowD ((prs1 (keysB ws)).filterMap (rowO ws)))]) := by
  have hlt := get_lt hr
  have hf := W.few
  obtain ⟨P, hP⟩ : ∃ P, P = (prs1 (keysB ws)).filterMap (rowO ws) := ⟨_, rfl⟩
  have w : sForK .keys (eVar 0) (gN 2) (b_l_due_L2 ca) [some (.ref r), some (.ref μ.length), none, none, none] (μ ++ [.lst []]) = .nx [some (.ref r), some (.ref μ.length), (outL ws (keysB ws) (keysB ws) (none, none, none)).1, (outL ws (keysB ws) (keysB ws) (none, none, none)).2.1, (outL ws (keysB ws) (keysB ws) (none, none, none)).2.2] (μ ++ [.lst (mapD rowD P)]) := by
    have hr2 : (μ ++ [Nd.lst []])[r]? = some (.dK (kv ws)) := get_old hr
    refine sForK_eq (n := r) (x := .dK (kv ws)) (μ1 := μ ++ [.lst []]) rfl hr2 fun hh => ?_
    have l := due_out (ca := ca) (r := r) (m := μ.length) W (o := hh.o) (vs := hh.ws) (by omega) (keysB ws) [] ((μ ++ [Nd.lst []]).set r (.lkK hh.o hh.ws (kv ws))) none none none (fun k hk => hk) (by unfold keysB; rw [List.length_map]; simp; omega) (get_at hr2) (get_set (by simp) (by omega))
    rw [List.nil_append] at l
    have e : ((keysB ws).flatMap fun a => ((keysB ws).filter fun b => decide (a < b)).map fun b => (a, b)).filterMap (rowO ws) = P := hP.symm
    rw [e] at l
    have fin : (((μ ++ [Nd.lst []]).set r (.lkK hh.o hh.ws (kv ws))).set μ.length (.lst (mapD rowD P))).set r (.dK (kv ws)) = μ ++ [.lst (mapD rowD P)] := by
      rw [List.set_comm _ _ (by omega), List.set_set, set_same hr2, List.set_append_right _ _ (Nat.le_refl _)]
      simp
    simp only [runK, lkN, keysD_kv]
    simp [l, fin]
  have s1 := gSortP_rows (R := P) (μ := μ ++ [.lst (mapD rowD P)]) (d := .ref μ.length) (by simp [lsOf])
  have e2 : srtR P = due ws := by rw [hP]; rfl
  rw [e2] at s1
  rw [← hP]
  simp only [F_l_due, b_l_due, runF]
  simp [w, s1]
end
end P_k15

namespace P_k15
open PySem PySem.Spec PyProof.Rows L2 Dn
open Classical
section
variable {ca : Nat → Addr} {μ : Mu} {n p r m : Nat} {ws : Bk}
theorem gDixW (h : μ[p]? = some (.dK (kv ws))) {k : Int} (hk : k ∈ keysB ws) : gDix (.ref p) (.int k) μ = .val (wyD (gB ws k)) μ := gDix_kv h hk
abbrev meR (r m : Nat) (x2 x3 x4 x5 x6 x7 x8 : Option D) : Ro := [some (.ref r), some (.ref m), x2, x3, x4, x5, x6, x7, x8]
theorem me_body (W : WOk ws) {a b : Int} (ha : a ∈ keysB ws) (hb : b ∈ keysB ws) (hr : μ[r]? = some (.dK (kv ws))) {R : List Row} (hm : μ[m]? = some (.lst (mapD rowD R))) (hl : R.length < 5000) (x2 x3 x5 x6 x7 x8 : Option D) :
    ∃ y6 y7 y8, (turn (gN 5) (b_meetings_L1 ca) (.int b) (meR r m x2 x3 (some (.int a)) x5 x6 x7 x8) μ = .nx (meR r m x2 x3 (some (.int a)) (some (.int b)) y6 y7 y8) (μ.set m (.lst (mapD rowD (R ++ (rowO ws (a, b)).toList)))) ∨
      turn (gN 5) (b_meetings_L1 ca) (.int b) (meR r m x2 x3 (some (.int a)) x5 x6 x7 x8) μ = .ct (meR r m x2 x3 (some (.int a)) (some (.int b)) y6 y7 y8) (μ.set m (.lst (mapD rowD (R ++ (rowO ws (a, b)).toList))))) := by
  have e1 := gDixW hr ha
  have e2 := gDixW hr hb
  have f1 := run_first_row (ca := ca) (W.at_ ha) (W.at_ hb) μ
  cases q2 : mtO (gB ws a) (gB ws b) with
  | none =>
    rw [q2] at f1
    refine ⟨some .non, x7, x8, .inr ?_⟩
    have e : rowO ws (a, b) = none := by unfold rowO; rw [q2]; rfl
    rw [e]
    have e3 : μ.set m (.lst (mapD rowD (R ++ (none : Option Row).toList))) = μ := by
      rw [Option.toList_none, List.append_nil]
      exact set_same hm
    rw [e3]
    simp only [turn, b_meetings_L1, meR]
    simp [e1, e2, f1, mtD]
  | some z =>
    rw [q2] at f1
    refine ⟨some (mtD (some z)), some (.int z.1), some (.str z.2), .inl ?_⟩
    have e : rowO ws (a, b) = some (z.1, a, b, z.2) := by unfold rowO; rw [q2]; rfl
    rw [e]
    have hz : (mapD rowD R).length < 100000 := by rw [mapD_length]; omega
    have ap : gAppend (.ref m) [rowD (z.1, a, b, z.2)] μ = .val .non (μ.set m (.lst (mapD rowD (R ++ [(z.1, a, b, z.2)])))) := by
      simp only [gAppend, hm, if_pos hz, mapD_snoc]
    have ty : tyMt "list" (.ref m) μ = true := isL_ref hm
    simp only [rowD] at ap
    simp only [turn, b_meetings_L1, Option.toList_some, meR]
    simp [e1, e2, f1, mtD, ap, ty, -gAppend, -tyMt]
theorem me_in (W : WOk ws) {a : Int} (ha : a ∈ keysB ws) (hrm : m ≠ r) : ∀ (bs : List Int) (R : List Row) (M : Mu) (x2 x3 x5 x6 x7 x8 : Option D), (∀ k ∈ bs, k ∈ keysB ws) → R.length + bs.length ≤ 5000 → M[r]? = some (.dK (kv ws)) → M[m]? = some (.lst (mapD rowD R)) →
    ∃ y5 y6 y7 y8, forL (gN 5) (b_meetings_L1 ca) (mapD D.int bs) (meR r m x2 x3 (some (.int a)) x5 x6 x7 x8) M = .nx (meR r m x2 x3 (some (.int a)) y5 y6 y7 y8) (M.set m (.lst (mapD rowD (R ++ (bs.map fun b => (a, b)).filterMap (rowO ws)))))
  | [], R, M, x2, x3, x5, x6, x7, x8, hs, hl, hr, hm => by
    refine ⟨x5, x6, x7, x8, ?_⟩
    simp only [List.map_nil, List.filterMap_nil, List.append_nil]
    rw [set_same hm]
    rfl
  | b :: bs, R, M, x2, x3, x5, x6, x7, x8, hs, hl, hr, hm => by
    have hb := hs b List.mem_cons_self
    rw [List.length_cons] at hl
    obtain ⟨z6, z7, z8, t⟩ := me_body (ca := ca) (r := r) (m := m) W ha hb hr hm (by omega) x2 x3 x5 x6 x7 x8
    obtain ⟨y5, y6, y7, y8, l⟩ := me_in W ha hrm bs (R ++ (rowO ws (a, b)).toList) (M.set m (.lst (mapD rowD (R ++ (rowO ws (a, b)).toList)))) x2 x3 (some (.int b)) z6 z7 z8 (fun k hk => hs k (List.mem_cons_of_mem _ hk)) (by
      have : (rowO ws (a, b)).toList.length ≤ 1 := by cases rowO ws (a, b) <;> simp
      rw [List.length_append]
      omega) (get_set hr (Ne.symm hrm)) (get_at hm)
    refine ⟨y5, y6, y7, y8, ?_⟩
    have e : R ++ (rowO ws (a, b)).toList ++ (bs.map fun b => (a, b)).filterMap (rowO ws) = R ++ ((b :: bs).map fun b => (a, b)).filterMap (rowO ws) := by
      rw [List.map_cons, List.filterMap_cons]
      cases rowO ws (a, b) <;> simp
    rw [List.set_set, e] at l
    rw [mapD_cons, forL_turn]
    rcases t with t | t <;> rw [t] <;> exact l
theorem cut_from {ks : List Int} {i : Nat} (h : i < ks.length) : cutL ks (some ((i : Int) + 1)) none = ks.drop (i + 1) := by
  rw [cutL_fromI (by omega)]
  congr 1
theorem me_loop (W : WOk ws) (hr : μ[r]? = some (.dK (kv ws))) (hm : μ[m]? = some (.lst [])) (hrm : m ≠ r) : ∃ y3 y4 y5 y6 y7 y8, forE (.lst (mapD D.int (srtI (keysB ws)))) (gTp 2 (gC (gN 3) (gC (gN 4) gN0))) (b_meetings_L2 ca) FUEL 0 (meR r m (some (.lst (mapD D.int (srtI (keysB ws))))) none none none none none none) μ =
    .nx (meR r m (some (.lst (mapD D.int (srtI (keysB ws))))) y3 y4 y5 y6 y7 y8) (μ.set m (.lst (mapD rowD ((prs2 (srtI (keysB ws))).filterMap (rowO ws))))) := by
  have hf := W.few
  obtain ⟨ks, hks⟩ : ∃ ks, ks = srtI (keysB ws) := ⟨_, rfl⟩
  have hkm : ∀ k ∈ ks, k ∈ keysB ws := fun k hk => by rw [hks] at hk; exact srtI_mem.mp hk
  have hkl : ks.length ≤ 40 := by rw [hks, srtI_len]; unfold keysB; rw [List.length_map]; exact hf
  rw [← hks]
  obtain ⟨ρ', μ', l, acc, hacc, hb, ⟨y3, y4, y5, y6, y7, y8, rfl⟩, rfl⟩ := forE_go (p := .lst (mapD D.int ks)) (g := gTp 2 (gC (gN 3) (gC (gN 4) gN0))) (b := b_meetings_L2 ca) (xs := mapD D.int ks)
    (fun i ρ M => ∃ acc : List (Int × Int), acc ++ prs2 (ks.drop i) = prs2 ks ∧ acc.length ≤ 40 * i ∧ (∃ y3 y4 y5 y6 y7 y8, ρ = meR r m (some (.lst (mapD D.int ks))) y3 y4 y5 y6 y7 y8) ∧ M = μ.set m (.lst (mapD rowD (acc.filterMap (rowO ws)))))
    (fun i ρ M _ => rfl)
    (fun i d ρ M hd ⟨acc, h1, h2, ⟨y3, y4, y5, y6, y7, y8, h3⟩, h4⟩ => by
      rw [mapD_get] at hd
      cases hi : ks[i]? with
      | none => rw [hi] at hd; cases hd
      | some a =>
        rw [hi] at hd
        cases hd
        obtain ⟨hlt, ea⟩ := List.getElem?_eq_some_iff.mp hi
        have ed : ks.drop i = a :: ks.drop (i + 1) := by rw [List.drop_eq_getElem_cons hlt, ea]
        have ha : a ∈ keysB ws := hkm a (by rw [← ea]; exact List.getElem_mem hlt)
        have hl1 : (acc.filterMap (rowO ws)).length ≤ acc.length := List.length_filterMap_le _ _
        obtain ⟨z5, z6, z7, z8, l⟩ := me_in (ca := ca) (r := r) (m := m) W ha hrm (ks.drop (i + 1)) (acc.filterMap (rowO ws)) M (some (.lst (mapD D.int ks))) (some (.int (i : Int))) y5 y6 y7 y8 (fun k hk => hkm k (List.mem_of_mem_drop hk)) (by rw [List.length_drop]; omega) (by rw [h4]; exact get_set hr (Ne.symm hrm)) (by rw [h4]; exact get_at hm)
        refine ⟨_, M.set m (.lst (mapD rowD (acc.filterMap (rowO ws) ++ ((ks.drop (i + 1)).map fun b => (a, b)).filterMap (rowO ws)))), .inl ?_, acc ++ (ks.drop (i + 1)).map (fun b => (a, b)), ?_, ?_, ⟨some (.int (i : Int)), some (.int a), z5, z6, z7, z8, rfl⟩, ?_⟩
        · rw [h3]
          simp only [turn, b_meetings_L2]
          have hc := cut_from hlt
          simp only [meR] at l
          simp [hc, meR]
          simp only [List.map_drop] at l
          exact l
        · rw [← h1, ed, prs2, List.append_assoc]
        · rw [List.length_append, List.length_map, List.length_drop]
          omega
        · rw [h4, List.set_set, List.filterMap_append])
    FUEL 0 (meR r m (some (.lst (mapD D.int ks))) none none none none none none) μ (by rw [mapD_length]; exact lt_fuel (by omega)) (Nat.zero_le _) ⟨[], rfl, by simp, ⟨_, _, _, _, _, _, rfl⟩, (set_same hm).symm⟩
  rw [mapD_length, List.drop_length, prs2, List.append_nil] at hacc
  rw [hacc] at l
  exact ⟨y3, y4, y5, y6, y7, y8, l⟩
theorem run_meetings (W : WOk ws) (hr : μ[r]? = some (.dK (kv ws))) : F_meetings ca [.ref r] μ = .val (.ref (μ.length + 1)) (μ ++ [.lst (mapD rowD ((prs2 (srtI (keysB ws))).filterMap (rowO ws))), .lst (mapD rowD (due ws))]) := by
  have hlt := get_lt hr
  have e1 : gSortD [.ref r] (μ ++ [.lst []]) = .val (.lst (mapD D.int (srtI (keysB ws)))) (μ ++ [.lst []]) := gSortW (get_old hr) W
  obtain ⟨P, hP⟩ : ∃ P, P = (prs2 (srtI (keysB ws))).filterMap (rowO ws) := ⟨_, rfl⟩
  obtain ⟨y3, y4, y5, y6, y7, y8, l⟩ := me_loop (ca := ca) (μ := μ ++ [.lst []]) (r := r) (m := μ.length) W (get_old hr) (by simp) (by omega)
  have e3 : (μ ++ [Nd.lst []]).set μ.length (.lst (mapD rowD P)) = μ ++ [.lst (mapD rowD P)] := by
    rw [List.set_append_right _ _ (Nat.le_refl _)]
    simp
  rw [← hP, e3] at l
  have s1 := gSortPN_rows (R := P) (μ := μ ++ [.lst (mapD rowD P)]) (d := .ref μ.length) (by simp [lsOf])
  have e2 : srtR P = due ws := by rw [hP]; exact due_eq W.nd
  rw [e2] at s1
  rw [← hP]
  simp only [meR] at l
  simp only [F_meetings, b_meetings, runF]
  simp [e1, sForE, l, s1, -gSortD]
end
end P_k15

namespace P_k15
open PySem PySem.Spec PyProof.Rows L2 Dn
open Classical
/-! ints in a list, in a tuple -/
theorem inV_ints (z : Int) (ns : List Int) : inV (V.int z) (ns.map V.int) = decide (z ∈ ns) := by
  induction ns with
  | nil => rfl
  | cons n r ih =>
    rw [List.map_cons]
    unfold inV at ih ⊢
    rw [List.any_cons, ih]
    by_cases q : z = n
    · subst q
      simp [eqV]
    · have : ¬ n = z := fun e => q e.symm
      simp [eqV, q, this]
theorem flVs_ints (ns : List Int) : flVs (mapD D.int ns) = some (ns.map V.int) := by
  induction ns with
  | nil => rfl
  | cons n r ih => rw [mapD_cons]; simp [ih]
theorem gIn_lints (z : Int) (ns : List Int) (μ : Mu) : gIn (.int z) (.lst (mapD D.int ns)) μ = .val (.bl (decide (z ∈ ns))) μ := by
  have : gInF false (.int z) (.lst (mapD D.int ns)) μ = .val (.bl (decide (z ∈ ns))) μ := by
    simp only [gInF, flV, sqOf, lsOf, Option.bind_some, flVs_ints, inV_ints]
    rfl
  unfold gIn orG
  rw [this]
theorem gIn_tints (z : Int) (ns : List Int) (μ : Mu) : gIn (.int z) (.tup (mapD D.int ns)) μ = .val (.bl (decide (z ∈ ns))) μ := by
  have : gInF false (.int z) (.tup (mapD D.int ns)) μ = .val (.bl (decide (z ∈ ns))) μ := by
    simp only [gInF, flV, sqOf, Option.bind_some, flVs_ints, inV_ints]
    rfl
  unfold gIn orG
  rw [this]
theorem rows_shaped {R : List Row} (hw : ∀ r ∈ R, PyData.strOk r.2.2.2 = true) : SeqAt.shaped (.list (R.map rowP)) = true := by
  have h : PyData.canLayAll0 (R.map rowP) = true ∧ PyData.depthAll (R.map rowP) ≤ 1 := by
    induction R with
    | nil => exact ⟨rfl, by simp [PyData.depthAll]⟩
    | cons r R ih =>
      have ih := ih fun x hx => hw x (List.mem_cons_of_mem _ hx)
      rw [List.map_cons]
      refine ⟨?_, ?_⟩
      · simp only [PyData.canLayAll0, ih.1, Bool.and_true]
        simp [rowP, PyData.canLay0, PyData.canLayAll0, hw r List.mem_cons_self]
      · simp only [PyData.depthAll]
        have := ih.2
        have h1 : (rowP r).depth ≤ 1 := by simp [rowP, PyData.depth, PyData.depthAll]
        omega
  unfold SeqAt.shaped
  rw [Bool.and_eq_true]
  refine ⟨by simp only [PyData.canLay0]; exact h.1, ?_⟩
  simp only [PyData.depth]
  have := h.2
  simp
  omega
theorem py_rows (R : List Row) : toPy (.lst (mapD rowD R)) = some (.list (R.map rowP)) := by simp only [toPy, toPyL_rows, Option.map_some]
section
variable {ca : Nat → Addr} {μ : Mu} {n p r m : Nat} {ws : Bk}
theorem run_are {a : Nat} {R : List Row} (ha : μ[a]? = some (.lst (mapD rowD R))) (hl : R.length ≤ 50000) (hw : ∀ r ∈ R, PyData.strOk r.2.2.2 = true) : F_l_are ca [.ref a, .lst (mapD rowD R)] μ = .val (.bl true) μ := by
  have ty : tyOf (.ref a) μ = some "list" := by simp only [tyOf, ha]
  have e1 : gNe (.ref a) (.lst (mapD rowD R)) μ = .val (.bl false) μ := gNe_same ((topPy_ref ha).trans (py_rows R)) (py_rows R) (rows_shaped hw)
  have w := fun z (μ : Mu) => run_whole_int (ca := ca) z μ
  obtain ⟨ρ', μ', l, ⟨y2, rfl⟩, rfl⟩ := forC_nx (n := a) (g := gN 2) (b := b_l_are_L1 ca) (xs := mapD rowD R) (ρ := [some (.ref a), some (.lst (mapD rowD R)), none, none]) (μ := μ)
    (fun i ρ ν => (∃ y2, ρ = [some (.ref a), some (.lst (mapD rowD R)), y2, none]) ∧ ν = μ) (by rw [mapD_length]; omega) (fun i ρ ν h => by rw [h.2]; exact ha) ⟨⟨none, rfl⟩, rfl⟩
    (fun i d ρ ν hd ⟨⟨y2, q1⟩, q2⟩ => by
      rw [q1, q2]
      rw [mapD_get] at hd
      cases hi : R[i]? with
      | none => rw [hi] at hd; cases hd
      | some x =>
        rw [hi] at hd
        cases hd
        refine ⟨[some (.ref a), some (.lst (mapD rowD R)), some (rowD x), none], μ, ?_, ⟨_, rfl⟩, rfl⟩
        simp only [turn, b_l_are_L1, b_l_are_C1, rowD]
        have hc : Dn.cutD [D.int x.1, .int x.2.1, .int x.2.2.1, .str x.2.2.2] none (some 3) = [D.int x.1, .int x.2.1, .int x.2.2.1] := by
          unfold Dn.cutD HT.sIx
          rfl
        simp [hc, compL_cons, w, gAll, lsOf, kit_tt])
  simp only [F_l_are, b_l_are, runF]
  simp [ty, kit_ll, e1, sForC, l, -tyOf]
theorem word_ok {w w' : Wy} {q : Int × Str} (h : mtO w w' = some q) : PyData.strOk q.2 = true := by
  unfold mtO at h
  split at h
  · rename_i hh
    obtain ⟨_, h2, _⟩ := hh.choose_spec
    rw [Option.some.inj h] at h2
    unfold W wd at h2
    split at h2
    · rw [← Option.some.inj h2]; decide +kernel
    · split at h2
      · rw [← Option.some.inj h2]; decide +kernel
      · cases h2
  · cases h
theorem due_words {r : Row} (h : r ∈ due ws) : PyData.strOk r.2.2.2 = true := word_ok (q := (r.1, r.2.2.2)) (mem_due.mp h).2.2.2
theorem due_len (W : WOk ws) : (due ws).length ≤ 1600 := by
  have hf := W.few
  have hk : (keysB ws).length ≤ 40 := by unfold keysB; rw [List.length_map]; exact hf
  unfold due
  rw [srtR_len]
  refine Nat.le_trans (List.length_filterMap_le _ _) ?_
  have key : ∀ l : List Int, (l.flatMap fun a => ((keysB ws).filter fun b => decide (a < b)).map fun b => (a, b)).length ≤ 40 * l.length := by
    intro l
    induction l with
    | nil => simp
    | cons a r ih =>
      rw [List.flatMap_cons, List.length_append, List.length_map, List.length_cons]
      have := List.length_filter_le (fun b => decide (a < b)) (keysB ws)
      omega
  have := key (keysB ws)
  unfold prs1
  omega
/-! a way put, refused or not -/
/-- a book out of the ways -/
def Sub (b ws : Bk) : Prop := ∀ e ∈ b, e.1 ∈ keysB ws ∧ e.2 = gB ws e.1
def refD : Option Int → D
  | some o => .int o
  | none => .non
noncomputable def putM (μ : Mu) (p : Nat) (b : Bk) (k : Int) (w : Wy) : Mu := match dueO b k w with
  | some _ => μ
  | none => μ.set p (.dK (kv (putB b k w)))
theorem run_refused {b : Bk} (h : BkAt ca μ n p b) (ok : BOk b) {w : Wy} (hw : OkW w) (k : Int) : F_l_refused ca [.ref n, .int k, wyD w] μ = .val (refD (dueO b k w)) (putM μ p b k w) := by
  have e1 := h.ins
  have e2 := run_put h ok hw k
  simp only [F_l_refused, b_l_refused, b_l_refused_L1, runF, putM]
  cases q : dueO b k w with
  | some o =>
    rw [q] at e2
    simp only at e2
    simp [sTryAs, e1, e2, List.lookup, refD, -insOf]
  | none =>
    rw [q] at e2
    simp only at e2
    simp [sTryAs, e1, e2, refD, -insOf]
/-- the numbers met, in the rows' order -/
def met (R : List Row) (b : Bk) (k : Int) : List Int := ((R.filter fun r => decide (k = r.2.1 ∨ k = r.2.2.1)).map fun r => r.2.1 + r.2.2.1 - k).filter fun o => decide (o ∈ keysB b)
theorem gB_sub {b : Bk} (s : Sub b ws) {o : Int} (ho : o ∈ keysB b) : o ∈ keysB ws ∧ gB b o = gB ws o := s _ (gB_mem ho)
theorem mem_met {b : Bk} (W : WOk ws) (s : Sub b ws) {k : Int} (hk : k ∈ keysB ws) {o : Int} : o ∈ met (due ws) b k ↔ o ∈ keysB b ∧ o ≠ k ∧ Mt (gB ws k) (gB b o) := by
  unfold met
  simp only [List.mem_filter, List.mem_map, decide_eq_true_eq]
  constructor
  · rintro ⟨⟨r, ⟨hr, hkr⟩, rfl⟩, ho⟩
    obtain ⟨h1, h2, h3, h4⟩ := mem_due.mp hr
    have hm : Mt (gB ws r.2.1) (gB ws r.2.2.1) := by
      by_cases q : Mt (gB ws r.2.1) (gB ws r.2.2.1)
      · exact q
      · rw [(mtO_Mt (W.at_ h1) (W.at_ h2)).mpr q] at h4
        cases h4
    rw [(gB_sub s ho).2]
    rcases hkr with e | e
    · have eo : r.2.1 + r.2.2.1 - k = r.2.2.1 := by omega
      rw [eo] at ho ⊢
      rw [e]
      exact ⟨ho, by omega, hm⟩
    · have eo : r.2.1 + r.2.2.1 - k = r.2.1 := by omega
      rw [eo] at ho ⊢
      rw [e]
      exact ⟨ho, by omega, hm.sym⟩
  · rintro ⟨h1, h2, h3⟩
    obtain ⟨g1, g2⟩ := gB_sub s h1
    rw [g2] at h3
    refine ⟨?_, h1⟩
    by_cases q : k < o
    · cases e : mtO (gB ws k) (gB ws o) with
      | none => exact absurd h3 ((mtO_Mt (W.at_ hk) (W.at_ g1)).mp e)
      | some z => exact ⟨(z.1, k, o, z.2), ⟨mem_due.mpr ⟨hk, g1, q, e⟩, .inl rfl⟩, by show k + o - k = o; omega⟩
    · cases e : mtO (gB ws o) (gB ws k) with
      | none => exact absurd h3.sym ((mtO_Mt (W.at_ g1) (W.at_ hk)).mp e)
      | some z => exact ⟨(z.1, o, k, z.2), ⟨mem_due.mpr ⟨g1, hk, by show o < k; omega, e⟩, .inr rfl⟩, by show o + k - k = o; omega⟩
theorem find_least : ∀ {l : List Int} {f : Int → Bool} {o : Int}, l.Pairwise (· ≤ ·) → l.find? f = some o → ∀ x ∈ l, f x = true → o ≤ x
  | [], _, _, _, h, _, _, _ => by simp at h
  | a :: l, f, o, hp, h, x, hx, hf => by
    obtain ⟨h1, h2⟩ := List.pairwise_cons.mp hp
    cases q : f a with
    | true =>
      rw [List.find?_cons_of_pos q] at h
      cases h
      rcases List.mem_cons.mp hx with rfl | hx
      · omega
      · exact h1 x hx
    | false =>
      rw [List.find?_cons_of_neg (by simp [q])] at h
      rcases List.mem_cons.mp hx with rfl | hx
      · rw [q] at hf; cases hf
      · exact find_least h2 h x hx hf
/-- the least of them, None where there is none -/
def minO : List Int → Option Int
  | [] => none
  | n :: r => some (minI (n :: r))
theorem due_min {b : Bk} (W : WOk ws) (s : Sub b ws) {k : Int} (hk : k ∈ keysB ws) : dueO b k (gB ws k) = minO (met (due ws) b k) := by
  have mm := fun o => mem_met W s hk (o := o)
  have up := srtI_up (keysB b)
  cases q : dueO b k (gB ws k) with
  | none =>
    cases e : met (due ws) b k with
    | nil => rfl
    | cons n r =>
      have h1 := (mm n).mp (by rw [e]; exact List.mem_cons_self)
      have h2 := List.find?_eq_none.mp q n (srtI_mem.mpr h1.1)
      exact absurd (by simp only [Bool.and_eq_true, decide_eq_true_eq]; exact ⟨h1.2.1, h1.2.2⟩) h2
  | some o =>
    have h1 := dueO_mem q
    have h2 := List.find?_some q
    simp only [Bool.and_eq_true, decide_eq_true_eq] at h2
    have hm : o ∈ met (due ws) b k := (mm o).mpr ⟨h1.1, h1.2, h2.2⟩
    cases e : met (due ws) b k with
    | nil => rw [e] at hm; simp at hm
    | cons n r =>
      rw [e] at hm
      have g1 := minI_mem (ns := n :: r) (by simp)
      have g2 := minI_le hm
      have g3 := (mm (minI (n :: r))).mp (by rw [e]; exact g1)
      have g4 := find_least up q (minI (n :: r)) (srtI_mem.mpr g3.1) (by simp only [Bool.and_eq_true, decide_eq_true_eq]; exact ⟨g3.2.1, g3.2.2⟩)
      show some o = some _
      congr 1
      omega
end
end P_k15

namespace P_k15
open PySem PySem.Spec PyProof.Rows L2 Dn
open Classical
section
variable {ca : Nat → Addr} {μ : Mu} {n p r m : Nat} {ws : Bk}
abbrev piR (n r : Nat) (O : D) (R : List Row) (x4 x5 x6 x7 : Option D) : Ro := [some (.ref n), some (.ref r), some O, some (.lst (mapD rowD R)), x4, x5, x6, x7]
theorem met_1 {b : Bk} (R : List Row) (k : Int) (hl : R.length ≤ 50000) (O : D) (x5 x7 : Option D) : compL (gN 6) (b_l_put_in_W1 ca) (b_l_put_in_C1 ca) (piR n r O R (some (.int k)) x5 none x7) (mapD rowD R) μ [] = .val (mapD D.int ((R.filter fun r => decide (k = r.2.1 ∨ k = r.2.2.1)).map fun r => r.2.1 + r.2.2.1 - k)) μ := by
  rw [compN_filterD (s := 6) (f := rowD) (h := fun r : Row => .int (r.2.1 + r.2.2.1 - k)) (q := fun r : Row => decide (k = r.2.1 ∨ k = r.2.2.1)) (fun x hx => ?_) (fun x hx _ => ?_)]
  · rw [List.nil_append]
    unfold mapD
    rw [List.map_map]
    rfl
  · have hc : Dn.cutD [D.int x.1, .int x.2.1, .int x.2.2.1, .str x.2.2.2] (some 1) (some 3) = [D.int x.2.1, .int x.2.2.1] := by
      unfold Dn.cutD HT.sIx
      rfl
    have g := gIn_tints k [x.2.1, x.2.2.1] μ
    have e : decide (k ∈ [x.2.1, x.2.2.1]) = decide (k = x.2.1 ∨ k = x.2.2.1) := by simp
    rw [e] at g
    simp only [mapD_cons, mapD_nil] at g
    simp only [b_l_put_in_W1, rowD]
    simp [hc, g]
  · have g2 : gIx (.tup [.int x.1, .int x.2.1, .int x.2.2.1, .str x.2.2.2]) (.int 2) μ = .val (.int x.2.2.1) μ := gIx_tup (atI_nat (xs := [D.int x.1, .int x.2.1, .int x.2.2.1, .str x.2.2.2]) (j := 2) rfl)
    simp only [b_l_put_in_C1, rowD]
    simp [g2]
theorem met_2 {b : Bk} (h : BkAt ca μ n p b) (ok : BOk b) (R : List Row) (k : Int) (O : D) (x5 x6 : Option D) (L : List Int) : compL (gN 7) (b_l_put_in_W2 ca) (b_l_put_in_C2 ca) (piR n r O R (some (.int k)) x5 x6 none) (mapD D.int L) μ [] = .val (mapD D.int (L.filter fun o => decide (o ∈ keysB b))) μ := by
  have e1 := h.ins
  have e2 := run_numbers h ok
  rw [compN_filterD (s := 7) (f := D.int) (h := D.int) (q := fun o => decide (o ∈ keysB b)) (fun x hx => ?_) (fun x hx _ => ?_)]
  · rfl
  · have g := gIn_lints x (srtI (keysB b)) μ
    have e : decide (x ∈ srtI (keysB b)) = decide (x ∈ keysB b) := by simp only [srtI_mem]
    rw [e] at g
    simp only [b_l_put_in_W2]
    simp [e1, e2, g, -insOf]
  · simp only [b_l_put_in_C2]
    simp
theorem pi_turn {b : Bk} (W : WOk ws) (hr : μ[r]? = some (.dK (kv ws))) (h : BkAt ca μ n p b) (ok : BOk b) (s : Sub b ws) {k : Int} (hk : k ∈ keysB ws) (O : D) (x4 x5 x6 x7 : Option D) :
    ∃ y5 y6 y7, turn (gN 4) (b_l_put_in_L1 ca) (.int k) (piR n r O (due ws) x4 x5 x6 x7) μ = .nx (piR n r O (due ws) (some (.int k)) y5 y6 y7) (putM μ p b k (gB ws k)) := by
  have dl := due_len W
  have c1 := met_1 (ca := ca) (μ := μ) (n := n) (r := r) (b := b) (due ws) k (by omega) O x5 x7
  have c2 := met_2 (ca := ca) (r := r) h ok (due ws) k O (some (.lst (mapD D.int (((due ws).filter fun r => decide (k = r.2.1 ∨ k = r.2.2.1)).map fun r => r.2.1 + r.2.2.1 - k)))) x6 (((due ws).filter fun r => decide (k = r.2.1 ∨ k = r.2.2.1)).map fun r => r.2.1 + r.2.2.1 - k)
  have e1 := h.ins
  have e2 := gDixW hr hk
  have e3 := run_refused h ok (W.at_ hk) k
  rw [due_min W s hk] at e3
  have l1 : ((due ws).filter fun r => decide (k = r.2.1 ∨ k = r.2.2.1)).length ≤ 50000 := by
    have := List.length_filter_le (fun r : Row => decide (k = r.2.1 ∨ k = r.2.2.1)) (due ws)
    omega
  have dm := due_min W s hk
  have em : met (due ws) b k = (((due ws).filter fun r => decide (k = r.2.1 ∨ k = r.2.2.1)).map fun r => r.2.1 + r.2.2.1 - k).filter fun o => decide (o ∈ keysB b) := rfl
  rw [← em] at c2
  generalize met (due ws) b k = M at c2 e3 dm
  have l2 : (((due ws).filter fun r => decide (k = r.2.1 ∨ k = r.2.2.1)).map fun r => r.2.1 + r.2.2.1 - k).length ≤ 50000 := by rw [List.length_map]; exact l1
  generalize (((due ws).filter fun r => decide (k = r.2.1 ∨ k = r.2.2.1)).map fun r => r.2.1 + r.2.2.1 - k) = L at c1 c2 l2
  refine ⟨some (.lst (mapD D.int M)), x6, x7, ?_⟩
  have dl' : (due ws).length ≤ 50000 := by omega
  simp only [piR] at c1 c2
  simp only [turn, b_l_put_in_L1, piR]
  cases M with
  | nil =>
    simp only [minO, refD] at e3
    simp [dl', c1, l2, c2, e2, e3]
  | cons z Z =>
    simp only [minO, refD] at e3
    simp [dl', c1, l2, c2, e2, e3]
theorem Sub.put {b : Bk} (s : Sub b ws) {k : Int} (hk : k ∈ keysB ws) : Sub (putB b k (gB ws k)) ws := fun e he => by
  rcases mem_putB he with rfl | ⟨h1, _⟩
  · exact ⟨hk, rfl⟩
  · exact s e h1
theorem Sub.drop {b : Bk} (s : Sub b ws) (k : Int) : Sub (dropB b k) ws := fun e he => s e (List.mem_filter.mp he).1
theorem put_next {b : Bk} (W : WOk ws) (ok : BOk b) (s : Sub b ws) {k : Int} (hk : k ∈ keysB ws) (hm : μ[p]? = some (.dK (kv b))) : ∃ b', putM μ p b k (gB ws k) = μ.set p (.dK (kv b')) ∧ BOk b' ∧ Sub b' ws := by
  unfold putM
  cases q : dueO b k (gB ws k) with
  | some o => exact ⟨b, (set_same hm).symm, ok, s⟩
  | none => exact ⟨putB b k (gB ws k), rfl, ok.put (W.ky k hk) (W.at_ hk) (dueO_none ok.nd q), s.put hk⟩
theorem run_put_in {b : Bk} (W : WOk ws) (hr : μ[r]? = some (.dK (kv ws))) (hpr : p ≠ r) (h : BkAt ca μ n p b) (ok : BOk b) (s : Sub b ws) (ks : List Int) (hk : ∀ k ∈ ks, k ∈ keysB ws) :
    ∃ b', F_l_put_in ca [.ref n, .ref r, .lst (mapD D.int ks), .lst (mapD rowD (due ws))] μ = .val (.bl true) (μ.set p (.dK (kv b'))) ∧ BOk b' ∧ Sub b' ws := by
  have hnp : n ≠ p := fun e => by
    have := h.bo
    rw [e, h.di] at this
    cases this
  obtain ⟨ρ', μ', l, ⟨⟨x4, x5, x6, x7, rfl⟩, b', rfl, ok', s'⟩⟩ := forD_all (g := gN 4) (b := b_l_put_in_L1 ca) (f := D.int) (xs := ks) (ρ := piR n r (.lst (mapD D.int ks)) (due ws) none none none none) (μ := μ)
    (fun ρ ν => (∃ x4 x5 x6 x7, ρ = piR n r (.lst (mapD D.int ks)) (due ws) x4 x5 x6 x7) ∧ ∃ b', ν = μ.set p (.dK (kv b')) ∧ BOk b' ∧ Sub b' ws) ⟨⟨_, _, _, _, rfl⟩, b, (set_same h.di).symm, ok, s⟩
    (fun k hks ρ ν ⟨⟨x4, x5, x6, x7, q1⟩, b', q2, ok', s'⟩ => by
      have hb : BkAt ca ν n p b' := by
        rw [q2]
        exact ⟨get_set h.bo hnp, get_at h.di⟩
      have hr' : ν[r]? = some (.dK (kv ws)) := by
        rw [q2]
        exact get_set hr (Ne.symm hpr)
      obtain ⟨y5, y6, y7, t⟩ := pi_turn W hr' hb ok' s' (hk k hks) (.lst (mapD D.int ks)) x4 x5 x6 x7
      obtain ⟨b2, e2, ok2, s2⟩ := put_next W ok' s' (hk k hks) hb.di
      rw [e2, q2, List.set_set] at t
      rw [← q2, ← q1] at t
      exact ⟨_, _, t, ⟨_, _, _, _, rfl⟩, b2, rfl, ok2, s2⟩)
  refine ⟨b', ?_, ok', s'⟩
  simp only [piR] at l
  simp only [F_l_put_in, b_l_put_in, runF]
  simp [l]
end
end P_k15

namespace P_k15
open PySem PySem.Spec PyProof.Rows L2 Dn
open Classical
/-! comprehensions over dicts -/
theorem compK_mapD {α : Type} {n s : Nat} {y : Nd} {te : EF} {ρ : Ro} {μ : Mu} {f h : α → D} (hy : μ[n]? = some y) : ∀ {xs : List α} {acc : List D}, (∀ x ∈ xs, te (ρ.set s (some (f x))) μ = .val (h x) μ) → compK n y (gN s) tfYes te ρ (mapD f xs) μ acc = .val (acc ++ mapD h xs) μ
  | [], acc, _ => by simp only [mapD_nil, compK, if_pos hy, List.append_nil]
  | x :: xs, acc, k => by
    rw [mapD_cons]
    simp only [compK, if_pos hy, gN, tfYes, k x List.mem_cons_self]
    rw [compK_mapD hy (fun z hz => k z (List.mem_cons_of_mem _ hz)), mapD_cons, List.append_assoc]
    rfl
theorem compK_filterD {α : Type} {n s : Nat} {y : Nd} {tt : TF} {te : EF} {ρ : Ro} {μ : Mu} {f h : α → D} {q : α → Bool} (hy : μ[n]? = some y) : ∀ {xs : List α} {acc : List D}, (∀ x ∈ xs, tt (ρ.set s (some (f x))) μ = .val (q x) μ) → (∀ x ∈ xs, q x = true → te (ρ.set s (some (f x))) μ = .val (h x) μ) → compK n y (gN s) tt te ρ (mapD f xs) μ acc = .val (acc ++ mapD h (xs.filter q)) μ
  | [], acc, _, _ => by simp only [mapD_nil, compK, if_pos hy, List.filter_nil, List.append_nil]
  | x :: xs, acc, k1, k2 => by
    have ih := fun acc => compK_filterD (acc := acc) hy (fun z hz => k1 z (List.mem_cons_of_mem _ hz)) (fun z hz => k2 z (List.mem_cons_of_mem _ hz))
    rw [mapD_cons]
    cases e : q x with
    | true =>
      have k1 := k1 x List.mem_cons_self
      rw [e] at k1
      rw [List.filter_cons_of_pos e]
      simp only [compK, if_pos hy, gN, k1, k2 x List.mem_cons_self e]
      rw [ih, mapD_cons, List.append_assoc]
      rfl
    | false =>
      have k1 := k1 x List.mem_cons_self
      rw [e] at k1
      rw [List.filter_cons_of_neg (by simp [e])]
      simp only [compK, if_pos hy, gN, k1]
      exact ih acc
/-- where a way is at a time -/
def vO (w : Wy) (t : Int) : Option Int := if t < w.1 then none else some (pl w.1 w.2 t)
theorem oD_v (w : Wy) (t : Int) : (if t < w.1 then D.non else .int (pl w.1 w.2 t)) = oD (vO w t) := by unfold vO; split <;> rfl
theorem gNe_oD (x y : Option Int) (μ : Mu) : gNe (oD x) (oD y) μ = .val (.bl (!decide (x = y))) μ := by
  cases x with
  | none =>
    cases y with
    | none => exact gNe_nn
    | some y =>
      show gNe .non (.int y) μ = _
      rw [gNe_py (p := .none) (q := .int y) (by simp) (by simp) (by simp) rfl rfl rfl rfl]
      simp [PyData.eqv]
  | some x =>
    cases y with
    | none =>
      show gNe (.int x) .non μ = _
      rw [gNe_py (p := .int x) (q := .none) (by simp) (by simp) (by simp) rfl rfl rfl rfl]
      simp [PyData.eqv]
    | some y =>
      show gNe (.int x) (.int y) μ = _
      rw [gNe_int]
      simp
theorem gNotN_oD (x : Option Int) (μ : Mu) : gNotN (oD x) .non μ = .val (.bl x.isSome) μ := by cases x <;> rfl
def oP : Option Int → PyData
  | none => .none
  | some z => .int z
theorem py_oD (x : Option Int) : toPy (oD x) = some (oP x) := by cases x <;> rfl
def stD (s : Option Int × Option Int) : D := .tup [oD s.1, oD s.2]
def stP (s : Option Int × Option Int) : PyData := .tuple [oP s.1, oP s.2]
theorem py_st (s : Option Int × Option Int) : toPy (stD s) = some (stP s) := by simp [stD, stP, toPy, toPyL, py_oD]
theorem eqv_st (s t : Option Int × Option Int) : PyData.eqv (stP s) (stP t) = decide (s = t) := by
  obtain ⟨a, b⟩ := s
  obtain ⟨c, d⟩ := t
  cases a <;> cases b <;> cases c <;> cases d <;> simp [stP, oP, PyData.eqv, PyData.eqvAll] <;> rfl
theorem lay_st (s : Option Int × Option Int) : (stP s).canLay0 = true := by
  obtain ⟨a, b⟩ := s
  cases a <;> cases b <;> simp [stP, oP, PyData.canLay0, PyData.canLayAll0]
theorem shaped_st (s : Option Int × Option Int) : SeqAt.shaped (stP s) = true := by
  unfold SeqAt.shaped
  rw [lay_st]
  obtain ⟨a, b⟩ := s
  cases a <;> cases b <;> simp [stP, oP, PyData.depth, PyData.depthAll]
theorem lays_st (S : List (Option Int × Option Int)) : PyData.canLayAll0 (S.map stP) = true := by
  induction S with
  | nil => rfl
  | cons s S ih => rw [List.map_cons]; simp only [PyData.canLayAll0, ih, lay_st, Bool.and_self]
theorem gInL_st (s : Option Int × Option Int) (S : List (Option Int × Option Int)) (μ : Mu) : gInL false (stD s) (.lst (mapD stD S)) μ = .val (.bl (decide (s ∈ S))) μ := by
  have e : toPyL (mapD stD S) = some (S.map stP) := toPyL_map py_st S
  have a : (S.map stP).any (fun z => PyData.eqv z (stP s)) = decide (s ∈ S) := by
    rw [List.any_map, Bool.eq_iff_iff, List.any_eq_true]
    simp only [Function.comp_apply, eqv_st, decide_eq_true_eq]
    exact ⟨fun ⟨x, hx, e⟩ => by rw [← e]; exact hx, fun h => ⟨s, h, rfl⟩⟩
  simp only [gInL, py_st, lsOf, e, shaped_st, lays_st, and_self, if_true, a]
  rfl
section
variable {ca : Nat → Addr} {μ : Mu} {n p r m : Nat} {b : Bk}
theorem key_eq (ok : BOk b) {e e' : Int × Wy} (h : e ∈ b) (h' : e' ∈ b) (hk : e.1 = e'.1) : e = e' := by
  have key : ∀ {l : Bk}, (l.map (·.1)).Nodup → ∀ x ∈ l, ∀ y ∈ l, x.1 = y.1 → x = y := by
    intro l
    induction l with
    | nil => intro _ x hx; simp at hx
    | cons a r ih =>
      intro hn x hx y hy hxy
      rw [List.map_cons] at hn
      obtain ⟨n1, n2⟩ := List.nodup_cons.mp hn
      rcases List.mem_cons.mp hx with h1 | h1
      · rcases List.mem_cons.mp hy with h2 | h2
        · rw [h1, h2]
        · exact absurd (by rw [← h1, hxy]; exact List.mem_map_of_mem h2) n1
      · rcases List.mem_cons.mp hy with h2 | h2
        · exact absurd (by rw [← h2, ← hxy]; exact List.mem_map_of_mem h1) n1
        · exact ih n2 x h1 y h2 hxy
  exact key ok.nd e h e' h' hk
theorem apart (ok : BOk b) {e e' : Int × Wy} (h : e ∈ b) (h' : e' ∈ b) (hk : e.1 ≠ e'.1) {t : Int} (h1 : e.2.1 ≤ t) (h2 : e'.2.1 ≤ t) : pl e.2.1 e.2.2 t ≠ pl e'.2.1 e'.2.2 t ∧ ¬ (pl e.2.1 e.2.2 t = pl e'.2.1 e'.2.2 (t + 1) ∧ pl e'.2.1 e'.2.2 t = pl e.2.1 e.2.2 (t + 1)) := by
  have hm := ok.ap e h e' h' hk
  have hw : W e.2.1 e.2.2 e'.2.1 e'.2.2 t = none := by
    cases q : W e.2.1 e.2.2 e'.2.1 e'.2.2 t with
    | none => rfl
    | some x => exact absurd ⟨t, by omega, by rw [q]; simp⟩ hm
  unfold W wd at hw
  split at hw
  · cases hw
  · rename_i q1
    split at hw
    · cases hw
    · rename_i q2
      exact ⟨q1, q2⟩
def hereL (b : Bk) (t : Int) : List Int := (b.filter fun e => (vO e.2 t).isSome).map fun e => pl e.2.1 e.2.2 t
theorem here_nodup (ok : BOk b) (t : Int) : (hereL b t).Nodup := by
  unfold hereL
  have nd := ok.nd
  unfold keysB at nd
  have pw : b.Pairwise fun e e' => e.1 ≠ e'.1 := List.pairwise_map.mp nd
  have pf := pw.sublist (l₁ := b.filter fun e => (vO e.2 t).isSome) List.filter_sublist
  refine List.pairwise_map.mpr (pf.imp_of_mem fun {e e'} h h' ne => ?_)
  obtain ⟨g1, g2⟩ := List.mem_filter.mp h
  obtain ⟨g3, g4⟩ := List.mem_filter.mp h'
  refine (apart ok g1 g3 ne ?_ ?_).1
  · unfold vO at g2
    split at g2
    · cases g2
    · omega
  · unfold vO at g4
    split at g4
    · cases g4
    · omega
def stepL (b : Bk) (t : Int) : List (Option Int × Option Int) := (b.filter fun e => !decide (vO e.2 t = vO e.2 (t + 1))).map fun e => (vO e.2 t, vO e.2 (t + 1))
theorem step_no (ok : BOk b) {t : Int} {s : Option Int × Option Int} (h : s ∈ stepL b t) : ¬ (s.2, s.1) ∈ stepL b t := fun h' => by
  unfold stepL at h h'
  obtain ⟨e, he, rfl⟩ := List.mem_map.mp h
  obtain ⟨e', he', q⟩ := List.mem_map.mp h'
  obtain ⟨h1, h2⟩ := List.mem_filter.mp he
  obtain ⟨h3, h4⟩ := List.mem_filter.mp he'
  simp only [Prod.mk.injEq] at q
  obtain ⟨q1, q2⟩ := q
  simp only [Bool.not_eq_true', decide_eq_false_iff_not] at h2 h4
  unfold vO at q1 q2 h2 h4
  by_cases g1 : t < e.2.1
  · simp only [g1, if_true] at q2 h2
    by_cases g2 : t + 1 < e'.2.1
    · have g3 : t < e'.2.1 := by omega
      simp [g2, g3] at h4
    · simp [g2] at q2
  · have g1' : ¬ t + 1 < e.2.1 := by omega
    simp only [g1, g1', if_false] at q1 q2 h2
    by_cases g2 : t < e'.2.1
    · simp [g2] at q1
    · have g2' : ¬ t + 1 < e'.2.1 := by omega
      simp only [g2, g2', if_false, Option.some.injEq] at q1 q2 h2 h4
      by_cases k : e.1 = e'.1
      · have := key_eq ok h1 h3 k
        subst this
        exact h2 q1
      · exact (apart ok h1 h3 k (t := t) (by omega) (by omega)).2 ⟨q2.symm, q1⟩
abbrev neR (r : Nat) (E : Int) (L : D) (x2 x4 x5 x6 x7 x8 : Option D) : Ro := [some (.ref r), some (.int E), x2, some L, x4, x5, x6, x7, x8]
def rowL (E : Int) (e : Int × Wy) : D := .lst (mapD oD (rowsR e.2.1 e.2.2 (E + 1).toNat))
theorem ix_rowL {E : Int} {e : Int × Wy} {t : Int} (h0 : 0 ≤ t) (h1 : t ≤ E) (μ : Mu) : gIx (rowL E e) (.int t) μ = .val (oD (vO e.2 t)) μ := by
  unfold rowL
  rw [ix_row h0 (by omega), oD_v]
theorem ne_turn (ok : BOk b) {E : Int} {i : Nat} (hi : (i : Int) < E) (x2 x4 x5 x6 x7 x8 : Option D) : ∃ y5 y7, turn (gN 4) (b_l_never_L1 ca) (.int (i : Int)) (neR r E (.lst (mapD (rowL E) b)) x2 x4 x5 x6 x7 x8) μ = .nx (neR r E (.lst (mapD (rowL E) b)) x2 (some (.int (i : Int))) y5 x6 y7 x8) μ := by
  have hf : b.length ≤ 50000 := by have := ok.few; omega
  have p1 := fun (e : Int × Wy) (μ : Mu) => ix_rowL (E := E) (e := e) (t := (i : Int)) (by omega) (by omega) μ
  have p2 := fun (e : Int × Wy) (μ : Mu) => ix_rowL (E := E) (e := e) (t := (i : Int) + 1) (by omega) (by omega) μ
  have c1 : ∀ (x5 x7 : Option D), compL (gN 6) (b_l_never_W1 ca) (b_l_never_C3 ca) (neR r E (.lst (mapD (rowL E) b)) x2 (some (.int (i : Int))) x5 none x7 x8) (mapD (rowL E) b) μ [] = .val (mapD D.int (hereL b i)) μ := fun x5 x7 => by
    rw [compN_filterD (s := 6) (f := rowL E) (h := fun e : Int × Wy => .int (pl e.2.1 e.2.2 i)) (q := fun e : Int × Wy => (vO e.2 i).isSome) (fun e he => ?_) (fun e he q => ?_)]
    · rw [List.nil_append]
      unfold hereL mapD
      rw [List.map_map]
      rfl
    · simp only [b_l_never_W1]
      simp [p1, gNotN_oD]
    · have : oD (vO e.2 i) = .int (pl e.2.1 e.2.2 i) := by
        unfold vO at q ⊢
        split at q
        · cases q
        · rename_i g
          rw [if_neg g]
          rfl
      simp only [b_l_never_C3]
      simp [p1, this]
  have c2 : ∀ (x5 x7 : Option D), compL (gN 6) (b_l_never_W2 ca) (b_l_never_C4 ca) (neR r E (.lst (mapD (rowL E) b)) x2 (some (.int (i : Int))) x5 none x7 x8) (mapD (rowL E) b) μ [] = .val (mapD stD (stepL b i)) μ := fun x5 x7 => by
    rw [compN_filterD (s := 6) (f := rowL E) (h := fun e : Int × Wy => stD (vO e.2 i, vO e.2 ((i : Int) + 1))) (q := fun e : Int × Wy => !decide (vO e.2 i = vO e.2 ((i : Int) + 1))) (fun e he => ?_) (fun e he q => ?_)]
    · rw [List.nil_append]
      unfold stepL mapD
      rw [List.map_map]
      rfl
    · simp only [b_l_never_W2]
      simp [p1, p2, gNe_oD]
    · simp only [b_l_never_C4, stD]
      simp [p1, p2]
  have c3 : ∀ (x5 x6 : Option D), compL (gN 8) (b_l_never_W3 ca) (b_l_never_C5 ca) (neR r E (.lst (mapD (rowL E) b)) x2 (some (.int (i : Int))) x5 x6 (some (.lst (mapD stD (stepL b i)))) none) (mapD stD (stepL b i)) μ [] = .val [] μ := fun x5 x6 => by
    rw [compN_filterD (s := 8) (f := stD) (h := stD) (q := fun _ => false) (fun s hs => ?_) (fun s hs q => ?_)]
    · rw [List.filter_eq_nil_iff.mpr (by simp)]
      rfl
    · have g := gInL_st (s.2, s.1) (stepL b i) μ
      rw [decide_eq_false (step_no ok hs)] at g
      simp only [stD] at g
      have e0 : ∀ μ, gIx (.tup [oD s.1, oD s.2]) (.int 1) μ = .val (oD s.2) μ := fun μ => gIx_tup (atI_nat (xs := [oD s.1, oD s.2]) (j := 1) rfl)
      have e1 : ∀ μ, gIx (.tup [oD s.1, oD s.2]) (.int 0) μ = .val (oD s.1) μ := fun μ => gIx_tup (atI_nat (xs := [oD s.1, oD s.2]) (j := 0) rfl)
      simp only [b_l_never_W3]
      generalize mapD stD (stepL b i) = L at g ⊢
      simp only [stD]
      simp [e0, e1, g]
    · cases q
  have nd := here_nodup ok (i : Int)
  have hl1 : (hereL b i).length ≤ 4000 := by
    unfold hereL
    rw [List.length_map]
    have := List.length_filter_le (fun e : Int × Wy => (vO e.2 (i : Int)).isSome) b
    have := ok.few
    omega
  have hl2 : (stepL b i).length ≤ 50000 := by
    unfold stepL
    rw [List.length_map]
    have := List.length_filter_le (fun e : Int × Wy => !decide (vO e.2 (i : Int) = vO e.2 ((i : Int) + 1))) b
    omega
  refine ⟨some (.lst (mapD D.int (hereL b i))), some (.lst (mapD stD (stepL b i))), ?_⟩
  generalize hereL b i = Hh at c1 nd hl1
  generalize stepL b i = Ss at c2 c3 hl2
  simp only [neR] at c1 c2 c3
  simp only [turn, b_l_never_L1, neR]
  simp [hf, c1, c2, c3, hl1, hl2, nd, nilNe]
end
end P_k15

namespace P_k15
open PySem PySem.Spec PyProof.Rows L2 Dn
open Classical
section
variable {ca : Nat → Addr} {μ : Mu} {n p r m : Nat} {b : Bk}
theorem itD_kv (b : Bk) : itD true (kv b) = mapD (fun e : Int × Wy => wyD e.2) b := by
  unfold itD kv mapD
  rw [List.map_map]
  rfl
theorem itD_kvk (b : Bk) : itD false (kv b) = mapD D.int (keysB b) := by
  unfold itD kv mapD keysB
  rw [List.map_map, List.map_map]
  rfl
/-- a comprehension over a book's ways, or numbers: the dict stays -/
theorem lcK_kv {vals : Bool} {i s : Nat} {tt : TF} {te : EF} {vs : List Nat} {ρ : Ro} {xs : List D} (hr : μ[r]? = some (.dK (kv b))) (hb : b.length ≤ 50000) (h0 : ρ[i]? = some (some (.ref r)))
    (k : ∀ hh : Gh, compK r (.lkK hh.o hh.ws (kv b)) (gN s) tt te (wipeR ρ vs) (itD vals (kv b)) (μ.set r (.lkK hh.o hh.ws (kv b))) [] = .val xs (μ.set r (.lkK hh.o hh.ws (kv b)))) : eLcK vals finL (eVar i) (gN s) tt te vs ρ μ = .val (.lst xs) μ := by
  have e0 : ∀ M, eVar i ρ M = .val (.ref r) M := fun M => by simp only [eVar, h0]
  refine eLcK_eq (n := r) (x := .dK (kv b)) (μ1 := μ) (e0 μ) hr fun hh => ?_
  have hl : (kv b).length ≤ 50000 := by unfold kv; rw [List.length_map]; exact hb
  simp only [runC, e0, hl, and_self, if_true, k hh, finL, List.set_set, set_same hr]
def endsB (b : Bk) : List Int := b.map fun e => e.2.1 + (e.2.2.length : Int)
theorem ends_le (ok : BOk b) {z : Int} (h : z ∈ endsB b) : 0 ≤ z ∧ z ≤ 200 := by
  unfold endsB at h
  obtain ⟨e, he, rfl⟩ := List.mem_map.mp h
  obtain ⟨h1, h2, h3, h4⟩ := ok.ok e he
  omega
theorem run_end (ok : BOk b) (hr : μ[r]? = some (.dK (kv b))) (x1 x2 x3 x4 x5 x6 x7 x8 : Option D) : ∃ M : Int, 0 ≤ M ∧ M ≤ 200 ∧ (∀ e ∈ b, e.2.1 + (e.2.2.length : Int) ≤ M) ∧
    eMaxDf (eLcK true finL (eVar 0) (gN 2) tfYes (b_l_never_C1 ca) [2]) (eC (.int 0)) [some (.ref r), x1, x2, x3, x4, x5, x6, x7, x8] μ = .val (.int M) μ := by
  have hf := ok.few
  have c : eLcK true finL (eVar 0) (gN 2) tfYes (b_l_never_C1 ca) [2] [some (.ref r), x1, x2, x3, x4, x5, x6, x7, x8] μ = .val (.lst (mapD D.int (endsB b))) μ := by
    refine lcK_kv hr (by omega) rfl fun hh => ?_
    rw [itD_kv, compK_mapD (get_at hr) (h := fun e : Int × Wy => .int (e.2.1 + (e.2.2.length : Int))) (fun e he => ?_)]
    · rw [List.nil_append]
      unfold endsB mapD
      rw [List.map_map]
      rfl
    · simp only [b_l_never_C1]
      simp [wyD]
  have mem : ∀ e ∈ b, e.2.1 + (e.2.2.length : Int) ∈ endsB b := fun e he => List.mem_map_of_mem he
  have le := fun z (h : z ∈ endsB b) => ends_le ok h
  generalize endsB b = N at c mem le
  cases N with
  | nil =>
    refine ⟨0, by omega, by omega, fun e he => ?_, ?_⟩
    · have := mem e he
      simp at this
    · simp [c, lsOf]
  | cons z Z =>
    refine ⟨maxI (z :: Z), (le _ (maxI_mem (by simp))).1, (le _ (maxI_mem (by simp))).2, fun e he => maxI_ge (mem e he), ?_⟩
    have := intsD_map (z :: Z)
    rw [mapD_cons] at this c
    simp only [eMaxDf, c, bind_val, eC, lsOf, Option.bind_some, this]
theorem run_never (ok : BOk b) (hr : μ[r]? = some (.dK (kv b))) : F_l_never ca [.ref r] μ = .val (.bl true) μ := by
  have hf := ok.few
  obtain ⟨M, m0, m1, m2, e1⟩ := run_end (ca := ca) ok hr none none none none none none none none
  obtain ⟨E, hE⟩ : ∃ E, E = 3 + M := ⟨_, rfl⟩
  have c : eLcK true finL (eVar 0) (gN 2) tfYes (b_l_never_C2 ca) [2] [some (.ref r), some (.int E), none, none, none, none, none, none, none] μ = .val (.lst (mapD (rowL E) b)) μ := by
    refine lcK_kv hr (by omega) rfl fun hh => ?_
    rw [itD_kv, compK_mapD (get_at hr) (h := rowL E) (fun e he => ?_)]
    · rfl
    · obtain ⟨h1, h2, h3, h4⟩ := ok.ok e he
      have := m2 e he
      have rr := run_rows (ca := ca) e.2.1 e.2.2 E h3 h1 (by omega) (by omega)
      simp only [b_l_never_C2, wyD]
      simp [rr, rowL]
  have rE : Rng E := ⟨by omega, by omega⟩
  obtain ⟨ρ', μ', l, ⟨x2, x4, x5, x7, rfl⟩, rfl⟩ := forN_nx (s := 4) (b := b_l_never_L1 ca) (n := E.toNat) (ρ := neR r E (.lst (mapD (rowL E) b)) none none none none none none) (μ := μ)
    (fun j ρ ν => (∃ x2 x4 x5 x7, ρ = neR r E (.lst (mapD (rowL E) b)) x2 x4 x5 none x7 none) ∧ ν = μ) ⟨⟨_, _, _, _, rfl⟩, rfl⟩
    (fun j ρ ν hj ⟨⟨x2, x4, x5, x7, q1⟩, q2⟩ => by
      rw [q1, q2]
      obtain ⟨y5, y7, t⟩ := ne_turn (ca := ca) (r := r) (μ := μ) ok (E := E) (i := j) (by omega) x2 x4 x5 none x7 none
      exact ⟨_, _, t, ⟨_, _, _, _, rfl⟩, rfl⟩)
  simp only [neR] at l
  have lr : (List.range E.toNat).map (fun i : Nat => D.int (i : Int)) = mapD dn (List.range E.toNat) := rfl
  simp only [F_l_never, b_l_never, runF]
  simp [e1, ← hE, c, rE, lr, l, -eMaxDf]
theorem due_none (ok : BOk b) : due b = [] := by
  cases q : due b with
  | nil => rfl
  | cons z Z =>
    obtain ⟨h1, h2, h3, h4⟩ := (mem_due (r := z)).mp (by rw [q]; exact List.mem_cons_self)
    have hm := ok.ap _ (gB_mem h1) _ (gB_mem h2) (by show z.2.1 ≠ z.2.2.1; omega)
    rw [(mtO_Mt (ok.w.at_ h1) (ok.w.at_ h2)).mpr hm] at h4
    cases h4
/-- the meetings of a book's ways: none -/
theorem run_none (ok : BOk b) (hr : μ[r]? = some (.dK (kv b))) : ∃ ν, F_meetings ca [.ref r] μ = .val (.ref (μ.length + 1)) (μ ++ ν) ∧ ν.length = 2 ∧ gNe (.ref (μ.length + 1)) (.lst []) (μ ++ ν) = .val (.bl false) (μ ++ ν) ∧ gEq (.ref (μ.length + 1)) (.lst []) (μ ++ ν) = .val (.bl true) (μ ++ ν) := by
  have h := run_meetings (ca := ca) ok.w hr
  rw [due_none ok] at h
  refine ⟨_, h, rfl, ?_, ?_⟩
  · have hg : (μ ++ [Nd.lst (mapD rowD ((prs2 (srtI (keysB b))).filterMap (rowO b))), .lst (mapD rowD [])])[μ.length + 1]? = some (.lst []) := by
      rw [List.getElem?_append_right (by omega)]
      simp
    exact gNe_same (p := .list []) ((topPy_ref hg).trans rfl) rfl rfl
  · have hg : (μ ++ [Nd.lst (mapD rowD ((prs2 (srtI (keysB b))).filterMap (rowO b))), .lst (mapD rowD [])])[μ.length + 1]? = some (.lst []) := by
      rw [List.getElem?_append_right (by omega)]
      simp
    exact gEq_same (p := .list []) ((topPy_ref hg).trans rfl) rfl rfl
end
end P_k15

namespace P_k15
open PySem PySem.Spec PyProof.Rows L2 Dn
open Classical
section
variable {ca : Nat → Addr} {μ : Mu} {n p r m : Nat} {b ws : Bk}
theorem two_at (a c : Int) (z : Int) : ∃ s : Int, (s = a ∨ s = c) ∧ ∀ μ, gIx (.lst [.int a, .int c]) (.int (z % 2)) μ = .val (.int s) μ := by
  have e : z % 2 = 0 ∨ z % 2 = 1 := by omega
  rcases e with e | e <;> rw [e]
  · exact ⟨a, .inl rfl, fun μ => gIx_lst (atI_nat (xs := [D.int a, .int c]) (j := 0) rfl)⟩
  · exact ⟨c, .inr rfl, fun μ => gIx_lst (atI_nat (xs := [D.int a, .int c]) (j := 1) rfl)⟩
theorem dz (x k : Int) (μ : Mu) (h0 : 0 < k) (h1 : k < 100000000) : gDiv (.int x) (.int k) μ = .val (.int (x / k)) μ := gDiv_pos h0 (by omega)
theorem mz (x k : Int) (μ : Mu) (h0 : 0 < k) : gMod (.int x) (.int k) μ = .val (.int (x % k)) μ := gMod_pos h0
abbrev dwR (c most size : Int) (spot : Int) (x5 x6 : Option D) : Ro := [some (.int c), some (.int most), some (.int size), some (.int spot), some (.ref 0), x5, x6]
theorem cell_small {c : Int} (h0 : 0 ≤ c) (h1 : c < 2147483647) : Cell c := by
  have := log2_small (x := c) (by omega) (by omega)
  unfold Cell
  omega
theorem drawn_turn {c most : Int} (hc : Cell c) (hm : 0 < most ∧ most ≤ 100) (size : Int) {i : Nat} (hi : i < 7) {cs : List Int} (hl : cs.length = i) (spot : Int) (x5 x6 : Option D) : ∃ spot' y6, b_l_drawn_way_L1 ca ((dwR c most size spot x5 x6).set 5 (some (.int (i : Int)))) [.lst (mapD D.int cs)] = .nx (dwR c most size spot' (some (.int (i : Int))) y6) [.lst (mapD D.int (cs ++ [spot]))] := by
  have mx := fun (μ : Mu) => run_mixed (ca := ca) c (i : Int) hc (by omega) μ
  have hb := mixZ_b c (i : Int)
  generalize mixZ c (i : Int) = x at mx hb
  have hl2 : cs.length < 100000 := by omega
  have d2 := fun (μ : Mu) => dz x 2 μ (by decide) (by decide)
  have d8 := fun (μ : Mu) => dz x 8 μ (by decide) (by decide)
  have m2 := fun (z : Int) (μ : Mu) => mz z 2 μ (by decide)
  have m8 := fun (z : Int) (μ : Mu) => mz z 8 μ (by decide)
  have mm := fun (z : Int) (μ : Mu) => mz z most μ hm.1
  obtain ⟨s, _, hs⟩ := two_at 1 (most - 1) (x / 2)
  by_cases q : x % 2 = 1
  · refine ⟨(spot + s) % most, some (.int x), ?_⟩
    unfold b_l_drawn_way_L1
    simp [hl2, mx, m2, d2, q, hs, mm]
  · by_cases q8 : x % 8 = 0
    · refine ⟨x / 8 % most, some (.int x), ?_⟩
      unfold b_l_drawn_way_L1
      simp [hl2, mx, m2, d2, q, m8, q8, d8, mm]
    · refine ⟨spot, some (.int x), ?_⟩
      unfold b_l_drawn_way_L1
      simp [hl2, mx, m2, d2, q, m8, q8]
theorem run_drawn {c most : Int} (hc : Cell c) (hm : 0 < most ∧ most ≤ 100) : ∃ (w : Wy) (ν : Mu), OkW w ∧ F_l_drawn_way ca [.int c, .int most] [] = .val (wyD w) ν := by
  obtain ⟨n, hn, hn1, hn7⟩ : ∃ n : Nat, 1 + c % 7 = (n : Int) ∧ 1 ≤ n ∧ n ≤ 7 := ⟨(1 + c % 7).toNat, by omega, by omega, by omega⟩
  obtain ⟨ρ', μ', e, ⟨spot, x5, x6, rfl⟩, cs, rfl, hl⟩ := forN_nx (s := 5) (b := b_l_drawn_way_L1 ca) (n := n) (ρ := dwR c most (n : Int) (c / 7 % most) none none) (μ := [.lst []])
    (fun i ρ ν => (∃ spot x5 x6, ρ = dwR c most (n : Int) spot x5 x6) ∧ ∃ cs : List Int, ν = [.lst (mapD D.int cs)] ∧ cs.length = i) ⟨⟨_, none, none, rfl⟩, [], rfl, rfl⟩
    (fun i ρ ν hi ⟨⟨spot, x5, x6, q1⟩, cs, q2, q3⟩ => by
      rw [q1, q2]
      obtain ⟨spot', y6, t⟩ := drawn_turn (ca := ca) hc hm (n : Int) (i := i) (by omega) q3 spot x5 x6
      exact ⟨_, _, t, ⟨_, _, _, rfl⟩, cs ++ [spot], rfl, by simp [q3]⟩)
  have rn : Rng (n : Int) := rng_nat (by omega)
  have lr : (List.range n).map (fun i : Nat => D.int (i : Int)) = mapD dn (List.range n) := rfl
  have m7 := fun (μ : Mu) => mz c 7 μ (by decide)
  have d7 := fun (μ : Mu) => dz c 7 μ (by decide) (by decide)
  have mm := fun (z : Int) (μ : Mu) => mz z most μ hm.1
  have dm := fun (z : Int) (μ : Mu) => dz z most μ hm.1 (by omega)
  have m9 := fun (z : Int) (μ : Mu) => mz z 9 μ (by decide)
  refine ⟨(c / 7 / most % 9, cs), [.lst (mapD D.int cs)], ⟨by show 0 ≤ c / 7 / most % 9; omega, by show c / 7 / most % 9 ≤ 100; omega, fun z => by
    have z : cs = [] := z
    rw [z] at hl
    simp at hl
    omega, by show cs.length ≤ 100; omega⟩, ?_⟩
  simp only [F_l_drawn_way, b_l_drawn_way, runF]
  simp [m7, hn, d7, mm, rn, lr, e, dm, m9, wyD]
theorem WOk.put {b : Bk} (h : WOk b) {k : Int} {w : Wy} (hk : k ∈ kset) (hw : OkW w) : WOk (putB b k w) := by
  refine ⟨?_, fun x hx => ?_, fun e he => ?_⟩
  · rw [keys_putB]
    split
    · exact h.nd
    · rename_i hn
      refine List.nodup_append.mpr ⟨h.nd, by simp, fun a ha c hc e => hn ?_⟩
      rw [hasB_iff]
      rw [List.mem_singleton.mp hc] at e
      rw [← e]
      exact ha
  · rw [keys_putB] at hx
    split at hx
    · exact h.ky x hx
    · rcases List.mem_append.mp hx with hx | hx
      · exact h.ky x hx
      · rw [List.mem_singleton.mp hx]; exact hk
  · rcases mem_putB he with rfl | ⟨h1, _⟩
    · exact hw
    · exact h.ok e h1
theorem WOk.nil : WOk [] := ⟨List.nodup_nil, by simp [keysB], by simp⟩
theorem kset_1 {k : Nat} (h : k < 20) : 3 * (k : Int) ∈ kset := by
  unfold kset
  exact List.mem_append_left _ (List.mem_map.mpr ⟨k, List.mem_range.mpr h, rfl⟩)
theorem kset_2 {k : Nat} (h : k < 20) : 1000000 - (k : Int) ∈ kset := by
  unfold kset
  exact List.mem_append_right _ (List.mem_map.mpr ⟨k, List.mem_range.mpr h, rfl⟩)
theorem pow6 (μ : Mu) : gPow (.int 10) (.int 6) μ = .val (.int 1000000) μ := by
  rw [gPow_ok (by decide) (by decide) (by decide) (by decide)]
  rfl
theorem dPut_kv (W : WOk b) (hr : μ[r]? = some (.dK (kv b))) (k : Int) (w : Wy) : dPut μ r (.int k) (wyD w) = some (μ.set r (.dK (kv (putB b k w)))) := by
  have := W.few
  have hl : (kv b).length < 100000 := by unfold kv; rw [List.length_map]; omega
  simp only [dPut, hr, kOf, Option.bind_some, if_pos hl, putD_kv]
abbrev wyR (ns : List Int) (many most : Int) (x4 x5 : Option D) : Ro := [some (.scr ns), some (.int many), some (.int most), some (.ref 0), x4, x5]
theorem wb_turn (ns : List Int) (hb : ∀ z ∈ ns, Builtin.Int.intBits z ≤ 1048576) (many : Int) {most : Int} (hm : 0 < most ∧ most ≤ 100) {k : Nat} (hk : k < 20) (W : WOk b) (x4 x5 : Option D) :
    ∃ y5 b', b_l_ways_by_L1 ca ((wyR ns many most x4 x5).set 4 (some (.int (k : Int)))) [.dK (kv b)] = .nx (wyR ns many most (some (.int (k : Int))) y5) [.dK (kv b')] ∧ WOk b' := by
  have m7 := fun (μ : Mu) => mz (k : Int) 7 μ (by decide)
  have c1 := fun (μ : Mu) => run_cell_at (ca := ca) ns (2 + (k : Int) % 7) (by omega) μ
  have c2 := fun (μ : Mu) => run_mixed (ca := ca) (cellZ ns (2 + (k : Int) % 7)) (k : Int) (cell_cell hb _) (by omega) μ
  have c3 := mixZ_b (cellZ ns (2 + (k : Int) % 7)) (k : Int)
  generalize mixZ (cellZ ns (2 + (k : Int) % 7)) (k : Int) = x at c2 c3
  obtain ⟨w, ν, hw, e1⟩ := run_drawn (ca := ca) (c := x / 2) (most := most) (cell_small (by omega) (by omega)) hm
  have d2 := fun (μ : Mu) => dz x 2 μ (by decide) (by decide)
  have m2 := fun (μ : Mu) => mz x 2 μ (by decide)
  obtain ⟨key, hkey, e2⟩ := two_at (3 * (k : Int)) (1000000 - (k : Int)) x
  have hks : key ∈ kset := by
    rcases hkey with rfl | rfl
    · exact kset_1 hk
    · exact kset_2 hk
  have e3 : ∀ μ, gMulA (.int 3) (.int (k : Int)) μ = .val (.int (3 * (k : Int))) μ := fun μ => gMulA_small (by omega) (by omega) (by omega) (by omega)
  have e4 := dPut_kv (μ := [.dK (kv b)]) (r := 0) W rfl key w
  refine ⟨some (.int x), putB b key w, ?_, W.put hks hw⟩
  unfold b_l_ways_by_L1
  simp only [wyD, wayD] at e4
  simp [m7, c1, c2, d2, e1, m2, e3, pow6, e2, gDSet, wyD]
  simp only [e4, Option.map_some, wyR, List.set_cons_zero]
theorem pick3 (z : Int) : ∃ s : Int, (0 < s ∧ s ≤ 100) ∧ ∀ μ, gIx (.lst [.int 4, .int 7, .int 14]) (.int (z % 3)) μ = .val (.int s) μ := by
  have e : z % 3 = 0 ∨ z % 3 = 1 ∨ z % 3 = 2 := by omega
  rcases e with e | e | e <;> rw [e]
  · exact ⟨4, by omega, fun μ => gIx_lst (atI_nat (xs := [D.int 4, .int 7, .int 14]) (j := 0) rfl)⟩
  · exact ⟨7, by omega, fun μ => gIx_lst (atI_nat (xs := [D.int 4, .int 7, .int 14]) (j := 1) rfl)⟩
  · exact ⟨14, by omega, fun μ => gIx_lst (atI_nat (xs := [D.int 4, .int 7, .int 14]) (j := 2) rfl)⟩
theorem run_ways_by (ns : List Int) (hb : ∀ z ∈ ns, Builtin.Int.intBits z ≤ 1048576) : ∃ ws, F_l_ways_by ca [.scr ns] [] = .val (.ref 0) [.dK (kv ws)] ∧ WOk ws := by
  have c0 := fun (μ : Mu) => run_cell_at (ca := ca) ns 0 (by omega) μ
  have c1 := fun (μ : Mu) => run_cell_at (ca := ca) ns 1 (by omega) μ
  obtain ⟨most, hm, p3⟩ := pick3 (cellZ ns 1)
  have m3 := fun (z : Int) (μ : Mu) => mz z 3 μ (by decide)
  have m8 := fun (z : Int) (μ : Mu) => mz z 8 μ (by decide)
  have m9 := fun (z : Int) (μ : Mu) => mz z 9 μ (by decide)
  have m6 := fun (z : Int) (μ : Mu) => mz z 6 μ (by decide)
  have d8 := fun (z : Int) (μ : Mu) => dz z 8 μ (by decide) (by decide)
  have d72 := fun (z : Int) (μ : Mu) => dz z 72 μ (by decide) (by decide)
  obtain ⟨many, hmany⟩ : ∃ many, many = (if cellZ ns 0 / 8 % 9 = 1 then 15 + cellZ ns 0 / 72 % 6 else cellZ ns 0 % 8) := ⟨_, rfl⟩
  have hN : 0 ≤ many ∧ many ≤ 20 := by
    rw [hmany]
    split <;> omega
  have rN : Rng many := ⟨by omega, by omega⟩
  have lr : (List.range many.toNat).map (fun i : Nat => D.int (i : Int)) = mapD dn (List.range many.toNat) := rfl
  obtain ⟨ρ', μ', l, ⟨x4, x5, rfl⟩, ws, rfl, W⟩ := forN_nx (s := 4) (b := b_l_ways_by_L1 ca) (n := many.toNat) (ρ := wyR ns many most none none) (μ := [.dK (kv [])])
    (fun i ρ ν => (∃ x4 x5, ρ = wyR ns many most x4 x5) ∧ ∃ b, ν = [.dK (kv b)] ∧ WOk b) ⟨⟨none, none, rfl⟩, [], rfl, WOk.nil⟩
    (fun i ρ ν hi ⟨⟨x4, x5, q1⟩, b, q2, W⟩ => by
      rw [q1, q2]
      obtain ⟨y5, b', t, W'⟩ := wb_turn (ca := ca) ns hb many hm (k := i) (by omega) W x4 x5
      exact ⟨_, _, t, ⟨_, _, rfl⟩, b', rfl, W'⟩)
  refine ⟨ws, ?_, W⟩
  simp only [wyR, kv, List.map_nil] at l
  simp only [F_l_ways_by, b_l_ways_by, runF]
  by_cases q : cellZ ns 0 / 8 % 9 = 1
  · rw [if_pos q] at hmany
    simp [c0, c1, m3, m8, m9, m6, d8, d72, q, p3, ← hmany, eNewK, rN, lr, l, kv]
  · rw [if_neg q] at hmany
    simp [c0, c1, m3, m8, m9, m6, d8, d72, q, p3, ← hmany, eNewK, rN, lr, l, kv]
/-! the book's ways, as a dict -/
def kb (b : Bk) : Bk := (srtI (keysB b)).map fun k => (k, gB b k)
theorem keys_kb (b : Bk) : keysB (kb b) = srtI (keysB b) := by
  unfold kb
  unfold keysB
  rw [List.map_map]
  show List.map (fun k => k) _ = _
  simp
theorem kb_mem {b : Bk} {e : Int × Wy} (h : e ∈ kb b) : e ∈ b := by
  unfold kb at h
  obtain ⟨k, hk, rfl⟩ := List.mem_map.mp h
  exact gB_mem (srtI_mem.mp hk)
theorem kb_ok (ok : BOk b) : BOk (kb b) := by
  refine ⟨?_, fun k hk => ?_, fun e he => ok.ok e (kb_mem he), fun e he e' he' => ok.ap e (kb_mem he) e' (kb_mem he')⟩
  · rw [keys_kb]
    exact (srtI_perm _).nodup_iff.mpr ok.nd
  · rw [keys_kb] at hk
    exact ok.ky k (srtI_mem.mp hk)
theorem kb_sub (s : Sub b ws) : Sub (kb b) ws := fun e he => s e (kb_mem he)
theorem merge_nodup : ∀ (more acc : Bk), (keysB (acc ++ more)).Nodup → mergeD (kv acc) (kv more) = kv (acc ++ more)
  | [], acc, _ => by simp [kv]
  | e :: more, acc, h => by
    have hn : hasB acc e.1 = false := by
      rw [Bool.eq_false_iff]
      intro z
      rw [hasB_iff] at z
      unfold keysB at h z
      rw [List.map_append, List.map_cons] at h
      exact (List.nodup_append.mp h).2.2 e.1 z e.1 List.mem_cons_self rfl
    have ih := merge_nodup more (acc ++ [e]) (by simpa using h)
    have e1 : putB acc e.1 e.2 = acc ++ [e] := by
      unfold putB
      rw [hn]
      rfl
    have e2 := putD_kv acc e.1 e.2
    rw [e1] at e2
    have e3 : kv (e :: more) = (Sum.inl e.1, wyD e.2) :: kv more := rfl
    unfold mergeD at ih ⊢
    rw [e3, List.foldl_cons]
    show List.foldl _ (putD (kv acc) (Sum.inl e.1) (wyD e.2)) _ = _
    rw [e2, ih]
    simp
theorem prs_kb (b : Bk) : prsD (mapD (othD b) (srtI (keysB b))) = some (kv (kb b)) := by
  unfold kb
  generalize srtI (keysB b) = ks
  induction ks with
  | nil => rfl
  | cons k r ih =>
    rw [mapD_cons]
    have : othD b k = .tup [.int k, wyD (gB b k)] := rfl
    rw [this]
    simp only [prsD, ih, kOf, Option.bind_some, Option.map_some]
    rfl
abbrev lwR (ns : List Int) (x1 x2 x3 x4 x6 x7 x9 : Option D) (n : Nat) : Ro := [some (.scr ns), x1, x2, x3, x4, some (.ref n), x6, x7, none, x9]
theorem run_kept (h : BkAt ca μ n p b) (ok : BOk b) (ns : List Int) (x1 x2 x3 x4 x6 x7 x9 : Option D) : eCB gDictP (aCons (eLc (iAny (eMeth ca 3 1 "numbers" (F_Book_numbers ca) (eVar 5) aNil)) (gN 8) tfYes (b_law_C1 ca) [8]) aNil) (lwR ns x1 x2 x3 x4 x6 x7 x9 n) μ = .val (.ref μ.length) (μ ++ [.dK (kv (kb b))]) := by
  have e1 := h.ins
  have e2 := run_numbers h ok
  have hl : (srtI (keysB b)).length ≤ 50000 := by
    have := ok.few
    rw [srtI_len]
    unfold keysB
    rw [List.length_map]
    omega
  have cm := compN_mapD (s := 8) (te := b_law_C1 ca) (ρ := lwR ns x1 x2 x3 x4 x6 x7 x9 n) (μ := μ) (f := D.int) (h := othD b) (xs := srtI (keysB b)) (acc := []) (fun k hk => by
    have e3 := run_way h k
    rw [hasB_iff.mpr (srtI_mem.mp hk)] at e3
    simp only [if_true] at e3
    simp only [b_law_C1, othD, lwR]
    simp [e1, e3, -insOf])
  have mg := merge_nodup (kb b) [] (by rw [List.nil_append]; exact (kb_ok ok).nd)
  rw [List.nil_append] at cm mg
  have pk := prs_kb b
  generalize mapD (othD b) (srtI (keysB b)) = L at cm pk
  have k0 : kv ([] : Bk) = [] := rfl
  rw [k0] at mg
  simp only [lwR] at cm ⊢
  simp [e1, e2, hl, cm, lsOf, pk, -insOf, -mergeD]
  exact mg
end
end P_k15

namespace P_k15
open PySem PySem.Spec PyProof.Rows L2 Dn
open Classical
section
variable {ca : Nat → Addr} {μ : Mu} {n p q m : Nat} {b ws : Bk}
theorem py_wy (w : Wy) : toPy (wyD w) = some (.tuple [.int w.1, .tuple (w.2.map PyData.int)]) := by simp [wyD, toPy, toPyL]
theorem ne_wy (w : Wy) (μ : Mu) : gNe (wyD w) (wyD w) μ = .val (.bl false) μ := gNe_same (py_wy _) (py_wy _) (by simp)
theorem neNil (L : List Int) (μ : Mu) : gNe (.lst (mapD D.int L)) (.lst []) μ = .val (.bl (!decide (L = []))) μ := by
  cases L with
  | nil => exact nilNe μ
  | cons a r =>
    rw [gNe_py (p := .list ((a :: r).map PyData.int)) (q := .list []) (by simp) (by simp) (by simp) (by simp [toPy]) rfl (by simp) rfl]
    simp [PyData.eqv, PyData.eqvAll]
theorem gB_kb {k : Int} (hk : k ∈ keysB (kb b)) : gB (kb b) k = gB b k := by
  have h := gB_mem hk
  unfold kb at h
  obtain ⟨z, hz, e⟩ := List.mem_map.mp h
  have e1 := (Prod.mk.inj e).1
  have e2 := (Prod.mk.inj e).2
  rw [← e1] at e2 ⊢
  exact e2.symm
/-- the ways of the book are those of the dict -/
theorem t1_same (s : Sub b ws) (ok : BOk b) (h0 : μ[0]? = some (.dK (kv ws))) (hq : μ[q]? = some (.dK (kv (kb b)))) (hq0 : q ≠ 0) (ns : List Int) (x2 x3 x4 x6 x9 : Option D) : eLcK false finL (eVar 7) (gN 8) (b_law_W1 ca) (b_law_C2 ca) [8] (lwR ns (some (.ref 0)) x2 x3 x4 x6 (some (.ref q)) x9 n) μ = .val (.lst []) μ := by
  have hf := (kb_ok ok).few
  refine lcK_kv hq (by omega) rfl fun hh => ?_
  rw [itD_kvk, compK_filterD (get_at hq) (h := D.int) (q := fun _ => false) (fun k hk => ?_) (fun k hk z => by cases z)]
  · rw [List.filter_eq_nil_iff.mpr (by simp)]
    rfl
  · have hk1 : k ∈ keysB b := by rw [keys_kb] at hk; exact srtI_mem.mp hk
    have g1 := gDix_lk (μ := μ.set q (.lkK hh.o hh.ws (kv (kb b)))) (p := q) (get_at hq) hk
    have hk2 := gB_sub s hk1
    have g2 := gDix_kv (μ := μ.set q (.lkK hh.o hh.ws (kv (kb b)))) (p := 0) (b := ws) (get_set h0 (Ne.symm hq0)) hk2.1
    rw [gB_kb hk, hk2.2] at g1
    have g3 := ne_wy (gB ws k)
    generalize μ.set q (.lkK hh.o hh.ws (kv (kb b))) = M at g1 g2
    generalize wyD (gB ws k) = d at g1 g2 g3
    simp only [b_law_W1]
    simp [g1, g2, g3]
theorem t1_left (ok : BOk b) (hq : μ[q]? = some (.dK (kv (kb b)))) (ord : List Int) (ns : List Int) (x1 x2 x3 x4 x9 : Option D) : compL (gN 8) (b_law_W2 ca) (b_law_C3 ca) (lwR ns x1 x2 x3 x4 (some (.lst (mapD D.int ord))) (some (.ref q)) x9 n) (mapD D.int ord) μ [] = .val (mapD D.int (ord.filter fun k => !hasB (kb b) k)) μ := by
  rw [compN_filterD (s := 8) (f := D.int) (h := D.int) (q := fun k => !hasB (kb b) k) (fun k hk => ?_) (fun k hk _ => ?_)]
  · rfl
  · have g := gDNotIn_kv hq k
    simp only [b_law_W2]
    simp [g]
  · simp only [b_law_C3]
    simp
theorem dne_nil (ok : BOk b) (hq : μ[q]? = some (.dK (kv (kb b)))) : gDNe (.ref q) (.ref μ.length) (μ ++ [.dK []]) = .val (.bl (!decide (kb b = []))) (μ ++ [.dK []]) := by
  have e1 : (μ ++ [Nd.dK []])[q]? = some (.dK (kv (kb b))) := get_old hq
  have e2 : (μ ++ [Nd.dK []])[μ.length]? = some (.dK []) := by simp
  simp only [gDNe, gDEqF, dEqD, e1, e2]
  cases e : kb b with
  | nil => rfl
  | cons a r => simp [kv]
theorem t1_deed (W : WOk ws) (h0 : μ[0]? = some (.dK (kv ws))) (h : BkAt ca μ n p b) (hp0 : p ≠ 0) (ok : BOk b) (s : Sub b ws) (hq : μ[q]? = some (.dK (kv (kb b)))) (hqp : q ≠ p) (left : List Int) (hl : ∀ k ∈ left, k ∈ keysB ws) (ns : List Int) (x3 x4 x6 : Option D) :
    ∃ μ' b', (sIf (tfAnd (tfB (eOp gDNe (eVar 7) eNewK)) (tfB (eOp gNe (eVar 9) (eLst aNil)))) (sSeq (sDrop (eMethX ca 3 2 "drop" (F_Book_drop ca) (eVar 5) (aCons (eOp gIx (eCB gSortD (aCons (eVar 7) aNil)) (eOp gMod (eCall 2 (F_l_cell_at ca) (aCons (eVar 0) (aCons (eC (.int 10)) aNil))) (eCB gDLen (aCons (eVar 7) aNil)))) aNil))) (sIf (tfNot (tfB (eCallM 4 (F_l_put_in ca) (aCons (eVar 5) (aCons (eVar 1) (aCons (eVar 9) (aCons (eVar 2) aNil))))))) (sRet (eC (.bl false))) sNext)) sNext)
      (lwR ns (some (.ref 0)) (some (.lst (mapD rowD (due ws)))) x3 x4 x6 (some (.ref q)) (some (.lst (mapD D.int left))) n) μ = .nx (lwR ns (some (.ref 0)) (some (.lst (mapD rowD (due ws)))) x3 x4 x6 (some (.ref q)) (some (.lst (mapD D.int left))) n) μ' ∧
      BkAt ca μ' n p b' ∧ BOk b' ∧ Sub b' ws ∧ μ'[0]? = some (.dK (kv ws)) := by
  have hnp : n ≠ p := fun e => by
    have := h.bo
    rw [e, h.di] at this
    cases this
  have d1 := dne_nil ok hq
  have d2 := fun μ => neNil left μ
  have hM : BkAt ca (μ ++ [.dK []]) n p b := ⟨get_old h.bo, get_old h.di⟩
  have hM0 : (μ ++ [Nd.dK []])[0]? = some (.dK (kv ws)) := get_old h0
  have hMq : (μ ++ [Nd.dK []])[q]? = some (.dK (kv (kb b))) := get_old hq
  by_cases q1 : kb b = []
  · refine ⟨μ ++ [.dK []], b, ?_, hM, ok, s, hM0⟩
    simp only [q1, decide_true, Bool.not_true] at d1
    simp [eNewK, d1, lwR]
  · have e1 : (!decide (kb b = [])) = true := by simp [q1]
    rw [e1] at d1
    by_cases q2 : left = []
    · refine ⟨μ ++ [.dK []], b, ?_, hM, ok, s, hM0⟩
      subst q2
      have d2 := nilNe (μ ++ [.dK []])
      simp [eNewK, d1, d2, lwR]
    · have e2 : (!decide (left = [])) = true := by simp [q2]
      rw [e2] at d2
      generalize hMe : μ ++ [Nd.dK []] = M at d1 hM hM0 hMq
      have hK : (srtI (keysB (kb b))).length = (kb b).length := by rw [srtI_len]; unfold keysB; rw [List.length_map]
      have hpos : 0 < (kb b).length := List.length_pos_iff.mpr q1
      have c10 := fun (μ : Mu) => run_cell_at (ca := ca) ns 10 (by omega) μ
      obtain ⟨j, hj, hj2⟩ : ∃ j : Nat, cellZ ns 10 % ((kb b).length : Int) = (j : Int) ∧ j < (kb b).length := ⟨(cellZ ns 10 % ((kb b).length : Int)).toNat, by
        have := Int.emod_nonneg (cellZ ns 10) (b := ((kb b).length : Int)) (by omega)
        omega, by
        have := Int.emod_nonneg (cellZ ns 10) (b := ((kb b).length : Int)) (by omega)
        have := Int.emod_lt_of_pos (cellZ ns 10) (b := ((kb b).length : Int)) (by omega)
        omega⟩
      have ml := fun (μ : Mu) => mz (cellZ ns 10) ((kb b).length : Int) μ (by omega)
      have e3 : gSortD [.ref q] M = .val (.lst (mapD D.int (srtI (keysB (kb b))))) M := gSort_kv hMq (kb_ok ok)
      have e4 : gDLen [.ref q] M = .val (.int ((kb b).length : Int)) M := by
        simp only [gDLen, hMq]
        simp [kv]
      have hjl : j < (srtI (keysB (kb b))).length := by omega
      obtain ⟨k, hk⟩ : ∃ k, (srtI (keysB (kb b)))[j]? = some k := ⟨_, List.getElem?_eq_getElem hjl⟩
      have hkb : k ∈ keysB b := by
        have := srtI_mem.mp (List.mem_of_getElem? hk)
        rw [keys_kb] at this
        exact srtI_mem.mp this
      have e5 : ∀ μ, gIx (.lst (mapD D.int (srtI (keysB (kb b))))) (.int (j : Int)) μ = .val (.int k) μ := fun μ => gIx_lst (atI_nat (by rw [mapD_get, hk]; rfl))
      have e6 := run_drop hM k
      rw [hasB_iff.mpr hkb] at e6
      simp only [if_true] at e6
      have ei := hM.ins
      have hD : BkAt ca (M.set p (.dK (kv (dropB b k)))) n p (dropB b k) := ⟨get_set hM.bo hnp, get_at hM.di⟩
      obtain ⟨b', e7, ok', s'⟩ := run_put_in (ca := ca) (r := 0) W (get_set hM0 (Ne.symm hp0)) hp0 hD (ok.drop k) (s.drop k) left hl
      rw [List.set_set] at e7
      refine ⟨M.set p (.dK (kv b')), b', ?_, ⟨get_set hM.bo hnp, get_at hM.di⟩, ok', s', get_set hM0 (Ne.symm hp0)⟩
      generalize mapD rowD (due ws) = DU at e7 ⊢
      generalize mapD D.int (srtI (keysB (kb b))) = SK at e3 e5
      generalize mapD D.int left = LE at e7 d2 ⊢
      simp only [lwR]
      simp [eNewK, hMe, d1, d2, c10, e3, e4, ml, hj, e5, ei, e6, e7, -insOf, -gSortD, -gDLen]
end
end P_k15

namespace P_k15
open PySem PySem.Spec PyProof.Rows L2 Dn
open Classical
section
variable {ca : Nat → Addr} {μ : Mu} {n p q m : Nat} {b ws : Bk}
theorem t1_end (ok : BOk b) (hq : μ[q]? = some (.dK (kv (kb b)))) (ns : List Int) (x1 x2 x3 x4 x6 x9 : Option D) : ∃ μ', (sRet (eT (tfAnd (tfB (eOp gEq (eCallM 1 (F_meetings ca) (aCons (eVar 7) aNil)) (eLst aNil))) (tfB (eCallM 1 (F_l_never ca) (aCons (eVar 7) aNil)))))) (lwR ns x1 x2 x3 x4 x6 (some (.ref q)) x9 n) μ = .ret (.bl true) μ' := by
  obtain ⟨ν, e1, e2, e3, e4⟩ := run_none (ca := ca) (kb_ok ok) hq
  have e5 := run_never (ca := ca) (kb_ok ok) (get_old (ν := ν) hq)
  refine ⟨μ ++ ν, ?_⟩
  generalize μ ++ ν = M at e1 e3 e4 e5
  simp [lwR, e1, e4, e5]
theorem run_t1 (W : WOk ws) (h0 : μ[0]? = some (.dK (kv ws))) (h : BkAt ca μ n p b) (hp0 : p ≠ 0) (ok : BOk b) (s : Sub b ws) (hq : μ[q]? = some (.dK (kv (kb b)))) (hqp : q ≠ p) (hq0 : q ≠ 0) (ord : List Int) (ho : ∀ k ∈ ord, k ∈ keysB ws) (hol : ord.length ≤ 40) (ns : List Int) (x3 x4 : Option D) :
    ∃ μ', b_law_T1 ca (lwR ns (some (.ref 0)) (some (.lst (mapD rowD (due ws)))) x3 x4 (some (.lst (mapD D.int ord))) (some (.ref q)) none n) μ = .ret (.bl true) μ' := by
  have e1 := t1_same (ca := ca) (n := n) s ok h0 hq hq0 ns (some (.lst (mapD rowD (due ws)))) x3 x4 (some (.lst (mapD D.int ord))) none
  have e2 := t1_left (ca := ca) (n := n) ok hq ord ns (some (.ref 0)) (some (.lst (mapD rowD (due ws)))) x3 x4 none
  have hl : ∀ k ∈ ord.filter fun k => !hasB (kb b) k, k ∈ keysB ws := fun k hk => ho k (List.mem_filter.mp hk).1
  obtain ⟨μ', b', e3, h', ok', s', h0'⟩ := t1_deed (ca := ca) W h0 h hp0 ok s hq hqp (ord.filter fun k => !hasB (kb b) k) hl ns x3 x4 (some (.lst (mapD D.int ord)))
  have e4 := run_kept h' ok' ns (some (.ref 0)) (some (.lst (mapD rowD (due ws)))) x3 x4 (some (.lst (mapD D.int ord))) (some (.ref q)) (some (.lst (mapD D.int (ord.filter fun k => !hasB (kb b) k))))
  obtain ⟨μ2, e5⟩ := t1_end (ca := ca) (n := n) (μ := μ' ++ [.dK (kv (kb b'))]) (q := μ'.length) ok' (by simp) ns (some (.ref 0)) (some (.lst (mapD rowD (due ws)))) x3 x4 (some (.lst (mapD D.int ord))) (some (.lst (mapD D.int (ord.filter fun k => !hasB (kb b) k))))
  refine ⟨μ2, ?_⟩
  have hol2 : ord.length ≤ 50000 := by omega
  unfold b_law_T1
  generalize mapD rowD (due ws) = DU at *
  rw [seq_nx (ρ1 := lwR ns (some (.ref 0)) (some (.lst DU)) x3 x4 (some (.lst (mapD D.int ord))) (some (.ref q)) none n) (μ1 := μ) (by
    have := nilNe μ
    simp [e1, this])]
  rw [seq_nx (ρ1 := lwR ns (some (.ref 0)) (some (.lst DU)) x3 x4 (some (.lst (mapD D.int ord))) (some (.ref q)) (some (.lst (mapD D.int (ord.filter fun k => !hasB (kb b) k)))) n) (μ1 := μ) (by
    generalize mapD D.int (ord.filter fun k => !hasB (kb b) k) = LE at *
    simp only [lwR] at e2 ⊢
    simp [hol2, e2])]
  rw [seq_nx e3]
  rw [seq_nx (ρ1 := lwR ns (some (.ref 0)) (some (.lst DU)) x3 x4 (some (.lst (mapD D.int ord))) (some (.ref μ'.length)) (some (.lst (mapD D.int (ord.filter fun k => !hasB (kb b) k)))) n) (μ1 := μ' ++ [.dK (kv (kb b'))]) (by
    have ec : b_law_C4 ca = b_law_C1 ca := rfl
    rw [ec]
    simp only [sAsg, sAsgG, e4]
    rfl)]
  exact e5
end
theorem run_t2 (ca : Nat → Addr) {μ : Mu} {ws : Bk} (W : WOk ws) (h0 : μ[0]? = some (.dK (kv ws))) (ns : List Int) (x3 x4 : Option D) :
    ∃ μ', b_law_T2 ca [some (.scr ns), some (.ref 0), some (.lst (mapD rowD (due ws))), x3, x4, none, none, none, none, none] μ = .ret (.bl true) μ' := by
  have hlt := get_lt h0
  have hf := W.few
  have i0 := run_init (ca := ca) μ
  have hb : BkAt ca (μ ++ [.ins 3 (ca 3) [("kept", .ref (μ.length + 1))], .dK (kv [])]) μ.length (μ.length + 1) [] := by
    refine ⟨by simp, ?_⟩
    rw [List.getElem?_append_right (by omega)]
    simp
  have h1 : (μ ++ [Nd.ins 3 (ca 3) [("kept", .ref (μ.length + 1))], .dK (kv [])])[0]? = some (.dK (kv ws)) := get_old h0
  have k0 : kv ([] : Bk) = [] := rfl
  rw [k0] at hb h1
  have es : gSortD [.ref 0] (μ ++ [Nd.ins 3 (ca 3) [("kept", .ref (μ.length + 1))], .dK []]) = .val (.lst (mapD D.int (srtI (keysB ws)))) (μ ++ [Nd.ins 3 (ca 3) [("kept", .ref (μ.length + 1))], .dK []]) := gSortW h1 W
  generalize hMe : μ ++ [Nd.ins 3 (ca 3) [("kept", .ref (μ.length + 1))], .dK []] = M at hb h1 es i0
  have c9 := fun (μ : Mu) => run_cell_at (ca := ca) ns 9 (by omega) μ
  obtain ⟨z, hz, e4⟩ := two_at 1 (-1) (cellZ ns 9)
  have m2 := fun (z : Int) (μ : Mu) => mz z 2 μ (by decide)
  have hsl : (srtI (keysB ws)).length ≤ 40 := by rw [srtI_len]; unfold keysB; rw [List.length_map]; exact hf
  obtain ⟨ord, ho, hol, eo⟩ : ∃ ord : List Int, (∀ k ∈ ord, k ∈ keysB ws) ∧ ord.length ≤ 40 ∧ (sAsg 6 (eStepL (eCB gSortD (aCons (eVar 1) aNil)) (eOp gIx (eLst (aCons (eC (.int 1)) (aCons (eUn gNeg (eC (.int 1))) aNil))) (eOp gMod (eCall 2 (F_l_cell_at ca) (aCons (eVar 0) (aCons (eC (.int 9)) aNil))) (eC (.int 2)))))) (lwR ns (some (.ref 0)) (some (.lst (mapD rowD (due ws)))) x3 x4 none none none μ.length) M = .nx (lwR ns (some (.ref 0)) (some (.lst (mapD rowD (due ws)))) x3 x4 (some (.lst (mapD D.int ord))) none none μ.length) M := by
    rcases hz with rfl | rfl
    · refine ⟨srtI (keysB ws), fun k hk => srtI_mem.mp hk, hsl, ?_⟩
      simp [lwR, es, c9, m2, e4, -gSortD]
    · refine ⟨(srtI (keysB ws)).reverse, fun k hk => srtI_mem.mp (List.mem_reverse.mp hk), by simpa using hsl, ?_⟩
      simp [lwR, es, c9, m2, e4, mapD_rev, -gSortD]
  obtain ⟨b1, e5, ok1, s1⟩ := run_put_in (ca := ca) (r := 0) W h1 (by omega) hb BOk.nil (fun e he => by cases he) ord ho
  have hb1 : BkAt ca (M.set (μ.length + 1) (.dK (kv b1))) μ.length (μ.length + 1) b1 := ⟨get_set hb.bo (by omega), get_at hb.di⟩
  have h01 : (M.set (μ.length + 1) (.dK (kv b1)))[0]? = some (.dK (kv ws)) := get_set h1 (by omega)
  generalize hNe : M.set (μ.length + 1) (.dK (kv b1)) = N at e5 hb1 h01
  have hNl : N.length = μ.length + 2 := by rw [← hNe, List.length_set, ← hMe]; simp
  have e6 := run_kept hb1 ok1 ns (some (.ref 0)) (some (.lst (mapD rowD (due ws)))) x3 x4 (some (.lst (mapD D.int ord))) none none
  have hk : (N ++ [Nd.dK (kv (kb b1))])[N.length]? = some (.dK (kv (kb b1))) := by simp
  obtain ⟨ν, e7, e8, e9, _⟩ := run_none (ca := ca) (kb_ok ok1) hk
  have e10 := run_never (ca := ca) (kb_ok ok1) (get_old (ν := ν) hk)
  have hlen : (N ++ [Nd.dK (kv (kb b1))]).length = N.length + 1 := by simp
  rw [hlen] at e7 e9
  obtain ⟨μ', e11⟩ := run_t1 (ca := ca) (μ := N ++ [Nd.dK (kv (kb b1))] ++ ν) (q := N.length) W (get_old (get_old h01)) ⟨get_old (get_old hb1.bo), get_old (get_old hb1.di)⟩ (by omega) ok1 s1 (get_old hk) (by omega) (by omega) ord ho hol ns x3 x4
  refine ⟨μ', ?_⟩
  unfold b_law_T2
  generalize hDU : mapD rowD (due ws) = DU at *
  rw [seq_nx (ρ1 := lwR ns (some (.ref 0)) (some (.lst DU)) x3 x4 none none none μ.length) (μ1 := M) (by simp [lwR, i0])]
  rw [seq_nx eo]
  rw [seq_nx (ρ1 := lwR ns (some (.ref 0)) (some (.lst DU)) x3 x4 (some (.lst (mapD D.int ord))) none none μ.length) (μ1 := N) (by simp [lwR, e5])]
  rw [seq_nx (ρ1 := lwR ns (some (.ref 0)) (some (.lst DU)) x3 x4 (some (.lst (mapD D.int ord))) (some (.ref N.length)) none μ.length) (μ1 := N ++ [.dK (kv (kb b1))]) (by
    simp only [sAsg, sAsgG, e6]
    rfl)]
  rw [seq_nx (ρ1 := lwR ns (some (.ref 0)) (some (.lst DU)) x3 x4 (some (.lst (mapD D.int ord))) (some (.ref N.length)) none μ.length) (μ1 := N ++ [.dK (kv (kb b1))] ++ ν) (by
    generalize N ++ [Nd.dK (kv (kb b1))] ++ ν = P at *
    simp [lwR, e7, e9, e10])]
  exact e11
theorem hits_same : ∀ (bs b : Bk), (keysB b).Nodup → (∀ e ∈ bs, e ∈ b) → hitsP (kv b) (kv bs) = some true
  | [], _, _, _ => rfl
  | e :: bs, b, hd, hs => by
    have hk : e.1 ∈ keysB b := List.mem_map_of_mem (hs e List.mem_cons_self)
    have e1 : valD (kv b) (.inl e.1) = some (wyD (gB b e.1)) := by rw [valD_kv, if_pos (hasB_iff.mpr hk)]
    have e2 : gB b e.1 = e.2 := by
      have h1 := gB_mem hk
      have key : ∀ {l : Bk}, (l.map (·.1)).Nodup → ∀ x ∈ l, ∀ y ∈ l, x.1 = y.1 → x = y := by
        intro l
        induction l with
        | nil => intro _ x hx; simp at hx
        | cons a r ih =>
          intro hn x hx y hy hxy
          rw [List.map_cons] at hn
          obtain ⟨n1, n2⟩ := List.nodup_cons.mp hn
          rcases List.mem_cons.mp hx with h1 | h1
          · rcases List.mem_cons.mp hy with h2 | h2
            · rw [h1, h2]
            · exact absurd (by rw [← h1, hxy]; exact List.mem_map_of_mem h2) n1
          · rcases List.mem_cons.mp hy with h2 | h2
            · exact absurd (by rw [← h2, ← hxy]; exact List.mem_map_of_mem h1) n1
            · exact ih n2 x h1 y h2 hxy
      exact congrArg Prod.snd (key hd _ h1 _ (hs e List.mem_cons_self) rfl)
    have e3 : kv (e :: bs) = (Sum.inl e.1, wyD e.2) :: kv bs := rfl
    have e4 : eqPy (wyD e.2) (wyD e.2) = some true := by
      have hsh : SeqAt.shaped (.tuple [.int e.2.1, .tuple (e.2.2.map PyData.int)]) = true := by simp
      have hr := SeqAt.eqv_refl _ (SeqAt.canLay_of_shaped hsh)
      unfold eqPy
      rw [py_wy]
      simp only [hsh, and_self, if_true, hr]
    rw [e3]
    unfold hitsP
    rw [e1, e2]
    simp only [e4, Option.bind_some, hits_same bs b hd (fun x hx => hs x (List.mem_cons_of_mem _ hx)), Option.map_some]
    rfl
def atR : Row := (0, 0, 0, "at")
theorem law_true (ca : Nat → Addr) (ns : List Int) (hl : ns.length ≤ 63) (hb : ∀ z ∈ ns, Builtin.Int.intBits z ≤ 1048576) : ∃ μ, F_law ca [.scr ns] [] = .val (.bl true) μ := by
  obtain ⟨ws, w1, W⟩ := run_ways_by (ca := ca) ns hb
  obtain ⟨P, hP⟩ : ∃ P, P = (prs1 (keysB ws)).filterMap (rowO ws) := ⟨_, rfl⟩
  obtain ⟨P2, hP2⟩ : ∃ P, P = (prs2 (srtI (keysB ws))).filterMap (rowO ws) := ⟨_, rfl⟩
  have w2 := run_due (ca := ca) (μ := [.dK (kv ws)]) (r := 0) W rfl
  rw [← hP] at w2
  have w4 := run_meetings (ca := ca) (μ := [.dK (kv ws), .lst (mapD rowD P), .dK (kv ws)]) (r := 2) W rfl
  rw [← hP2] at w4
  have dl := due_len W
  have dw : ∀ r ∈ due ws, PyData.strOk r.2.2.2 = true := fun r h => due_words h
  have w5 := run_are (ca := ca) (μ := [.dK (kv ws), .lst (mapD rowD P), .dK (kv ws), .lst (mapD rowD P2), .lst (mapD rowD (due ws))]) (a := 4) rfl (by omega) dw
  have w6 : gDNeP (.ref 2) (.ref 0) [.dK (kv ws), .lst (mapD rowD P), .dK (kv ws), .lst (mapD rowD P2), .lst (mapD rowD (due ws))] = .val (.bl false) [.dK (kv ws), .lst (mapD rowD P), .dK (kv ws), .lst (mapD rowD P2), .lst (mapD rowD (due ws))] := by
    have := hits_same ws ws W.nd (fun e he => he)
    simp [gDNeP, gDEqPF, dEqP, this]
  have w7 : gAppend (.ref 4) [rowD atR] [.dK (kv ws), .lst (mapD rowD P), .dK (kv ws), .lst (mapD rowD P2), .lst (mapD rowD (due ws))] = .val .non [.dK (kv ws), .lst (mapD rowD P), .dK (kv ws), .lst (mapD rowD P2), .lst (mapD rowD (due ws ++ [atR]))] := by
    have hz : (mapD rowD (due ws)).length < 100000 := by rw [mapD_length]; omega
    simp only [gAppend, List.getElem?_cons_succ, List.getElem?_cons_zero, if_pos hz, mapD_snoc]
    rfl
  have w7t : tyMt "list" (.ref 4) [.dK (kv ws), .lst (mapD rowD P), .dK (kv ws), .lst (mapD rowD P2), .lst (mapD rowD (due ws))] = true := isL_ref rfl
  have w8 := run_meetings (ca := ca) (μ := [.dK (kv ws), .lst (mapD rowD P), .dK (kv ws), .lst (mapD rowD P2), .lst (mapD rowD (due ws ++ [atR]))]) (r := 2) W rfl
  rw [← hP2] at w8
  have w9 := run_are (ca := ca) (μ := [.dK (kv ws), .lst (mapD rowD P), .dK (kv ws), .lst (mapD rowD P2), .lst (mapD rowD (due ws ++ [atR])), .lst (mapD rowD P2), .lst (mapD rowD (due ws))]) (a := 6) rfl (by omega) dw
  obtain ⟨μ', w10⟩ := run_t2 ca (μ := [.dK (kv ws), .lst (mapD rowD P), .dK (kv ws), .lst (mapD rowD P2), .lst (mapD rowD (due ws ++ [atR])), .lst (mapD rowD P2), .lst (mapD rowD (due ws))]) W rfl ns (some (.ref 2)) (some (.ref 4))
  refine ⟨μ', ?_⟩
  simp only [List.length_cons, List.length_nil, Nat.reduceAdd, List.cons_append, List.nil_append] at w2 w4 w8
  simp only [F_law, runF, List.map_cons, List.map_nil, List.length_cons, List.length_nil, List.replicate, Nat.reduceAdd, Nat.reduceSub, List.cons_append, List.nil_append]
  unfold b_law
  generalize hDU : mapD rowD (due ws) = DU at *
  generalize hDA : mapD rowD (due ws ++ [atR]) = DA at *
  simp only [rowD, atR] at w7
  generalize mapD rowD P = DP at *
  generalize mapD rowD P2 = DQ at *
  generalize hV : kv ws = V at *
  rw [seq_nx (ρ1 := [some (.scr ns), some (.ref 0), none, none, none, none, none, none, none, none]) (μ1 := [.dK V]) (by simp [w1])]
  rw [seq_nx (ρ1 := [some (.scr ns), some (.ref 0), some (.lst DU), none, none, none, none, none, none, none]) (μ1 := [.dK V, .lst DP]) (by simp [w2])]
  unfold b_law_T3
  rw [seq_nx (ρ1 := [some (.scr ns), some (.ref 0), some (.lst DU), some (.ref 2), none, none, none, none, none, none]) (μ1 := [.dK V, .lst DP, .dK V]) (by simp)]
  rw [seq_nx (ρ1 := [some (.scr ns), some (.ref 0), some (.lst DU), some (.ref 2), some (.ref 4), none, none, none, none, none]) (μ1 := [.dK V, .lst DP, .dK V, .lst DQ, .lst DU]) (by simp [w4])]
  rw [seq_nx (ρ1 := [some (.scr ns), some (.ref 0), some (.lst DU), some (.ref 2), some (.ref 4), none, none, none, none, none]) (μ1 := [.dK V, .lst DP, .dK V, .lst DQ, .lst DU]) (by simp [w5, w6])]
  rw [seq_nx (ρ1 := [some (.scr ns), some (.ref 0), some (.lst DU), some (.ref 2), some (.ref 4), none, none, none, none, none]) (μ1 := [.dK V, .lst DP, .dK V, .lst DQ, .lst DA]) (by simp [w7, w7t, -gAppend, -tyMt])]
  rw [seq_nx (ρ1 := [some (.scr ns), some (.ref 0), some (.lst DU), some (.ref 2), some (.ref 4), none, none, none, none, none]) (μ1 := [.dK V, .lst DP, .dK V, .lst DQ, .lst DA, .lst DQ, .lst DU]) (by simp [w8, w9])]
  rw [w10]
end P_k15

open PySem PySem.W PyProof.Rows
set_option maxRecDepth 100000 in
set_option maxHeartbeats 0 in
theorem PySem.Challenge.cw_floorways_k15_whole_books_never_meet_holds : PySem.Challenge.rw_floorways_k15_whole_books_never_meet.Holds := by
  w_on; o_law; k_head; (case hw => w_witness2)
  k_fill
  refine P_k15.walk (l := PySem.Challenge.rw_floorways_k15_whole_books_never_meet) rfl rfl rfl (fun w h Y => PySem.W.kIn_of Y) P_k15.law_true ?F
  case F =>
    intro w mg h KX G
    obtain ⟨ad, ca, fd, tk, T, _, e⟩ : ∃ (ad : Nat → Addr) (ca : Nat → Addr) (fd : Nat → FuncData) (tk : Nat → Tok), P_k15.Tx _ mg ad ca fd tk ∧ _ := by
      refine' P_k15.all_mk KX G ?aC3 ?pgC3 ?hdC3 ?poC3 ?saC3 ?mkC3 ?kcC3 ?aC0 ?aC1 ?aC2 ?a0 ?i0 ?l0 ?c0 ?k0 ?a1 ?l1 ?c1 ?k1 ?a2 ?l2 ?c2 ?k2 ?a3 ?l3 ?c3 ?k3 ?a4 ?l4 ?c4 ?k4 ?a5 ?l5 ?c5 ?k5 ?a6 ?i6 ?l6 ?c6 ?k6 ?a7 ?i7 ?l7 ?c7 ?k7 ?a8 ?i8 ?l8 ?c8 ?k8 ?a9 ?i9 ?l9 ?c9 ?k9 ?a10 ?i10 ?l10 ?c10 ?k10 ?a11 ?i11 ?l11 ?c11 ?k11 ?a12 ?i12 ?l12 ?c12 ?k12 ?a13 ?l13 ?c13 ?k13 ?a14 ?l14 ?c14 ?k14 ?a15 ?l15 ?c15 ?k15 ?a16 ?l16 ?c16 ?k16 ?a17 ?l17 ?c17 ?k17 ?a18 ?l18 ?c18 ?k18 ?a19 ?l19 ?c19 ?k19 ?a20 ?l20 ?c20 ?k20 ?a21 ?l21 ?c21 ?k21 ?a22 ?l22 ?c22 ?k22 ?a23 ?l23 ?c23 ?k23 ?a24 ?l24 ?c24 ?k24 ?a25 ?l25 ?c25 ?k25 ?xaC1 ?xbC1 ?xcC1 ?xdC1 ?caC2 ?cbC2 ?ccC2 ?sx0 ?sx1 ?wlC2 ?wrC2 ?wsC2 ?weC2 ?wtC2 ?wkC2 ?wnC2 ?uaC0 ?ubC0 ?ucC0 ?eaC2 ?ebC2 ?ecC2 ?edC2 ?eeC2 ?efC2 ?egC2 ?ehC2 ?eaC1 ?ebC1 ?ecC1 ?edC1 ?eeC1 ?efC1 ?egC1 ?ehC1 ?n0 ?z0 ?z1 ?z2 ?z3 ?z4 ?z5 ?z6 ?z7 ?z8 ?z9 ?z10 ?z11 ?z12 ?z13
      (case aC3 => k_is); (case pgC3 => k_is); (case hdC3 => k_is); (case poC3 => k_is); (case saC3 => k_is); (case mkC3 => k_is)
      (case kcC3 => k_is); (case aC0 => k_is); (case aC1 => k_is); (case aC2 => k_is); (case a0 => k_is); (case i0 => k_is)
      (case l0 => k_is); (case c0 => k_is); (case k0 => k_is); (case a1 => k_is); (case l1 => k_is); (case c1 => k_is)
      (case k1 => k_is); (case a2 => k_is); (case l2 => k_is); (case c2 => k_is); (case k2 => k_is); (case a3 => k_is)
      (case l3 => k_is); (case c3 => k_is); (case k3 => k_is); (case a4 => k_is); (case l4 => k_is); (case c4 => k_is)
      (case k4 => k_is); (case a5 => k_is); (case l5 => k_is); (case c5 => k_is); (case k5 => k_is); (case a6 => k_is)
      (case i6 => k_is); (case l6 => k_is); (case c6 => k_is); (case k6 => k_is); (case a7 => k_is); (case i7 => k_is)
      (case l7 => k_is); (case c7 => k_is); (case k7 => k_is); (case a8 => k_is); (case i8 => k_is); (case l8 => k_is)
      (case c8 => k_is); (case k8 => k_is); (case a9 => k_is); (case i9 => k_is); (case l9 => k_is); (case c9 => k_is)
      (case k9 => k_is); (case a10 => k_is); (case i10 => k_is); (case l10 => k_is); (case c10 => k_is); (case k10 => k_is)
      (case a11 => k_is); (case i11 => k_is); (case l11 => k_is); (case c11 => k_is); (case k11 => k_is); (case a12 => k_is)
      (case i12 => k_is); (case l12 => k_is); (case c12 => k_is); (case k12 => k_is); (case a13 => k_is); (case l13 => k_is)
      (case c13 => k_is); (case k13 => k_is); (case a14 => k_is); (case l14 => k_is); (case c14 => k_is); (case k14 => k_is)
      (case a15 => k_is); (case l15 => k_is); (case c15 => k_is); (case k15 => k_is); (case a16 => k_is); (case l16 => k_is)
      (case c16 => k_is); (case k16 => k_is); (case a17 => k_is); (case l17 => k_is); (case c17 => k_is); (case k17 => k_is)
      (case a18 => k_is); (case l18 => k_is); (case c18 => k_is); (case k18 => k_is); (case a19 => k_is); (case l19 => k_is)
      (case c19 => k_is); (case k19 => k_is); (case a20 => k_is); (case l20 => k_is); (case c20 => k_is); (case k20 => k_is)
      (case a21 => k_is); (case l21 => k_is); (case c21 => k_is); (case k21 => k_is); (case a22 => k_is); (case l22 => k_is)
      (case c22 => k_is); (case k22 => k_is); (case a23 => k_is); (case l23 => k_is); (case c23 => k_is); (case k23 => k_is)
      (case a24 => k_is); (case l24 => k_is); (case c24 => k_is); (case k24 => k_is); (case a25 => k_is); (case l25 => k_is)
      (case c25 => k_is); (case k25 => k_is); (case xaC1 => k_exc); (case xbC1 => k_is); (case xcC1 => k_is); (case xdC1 => k_is)
      (case caC2 => k_is); (case cbC2 => k_is); (case ccC2 => k_is); (case sx0 => k_is); (case sx1 => k_is); (case wlC2 => k_is)
      (case wrC2 => decide +kernel); (case wsC2 => k_is); (case weC2 => k_is); (case wtC2 => k_is); (case wkC2 => k_is); (case wnC2 => k_is)
      (case uaC0 => k_is); (case ubC0 => k_is); (case ucC0 => k_is); (case eaC2 => k_is); (case ebC2 => k_is); (case ecC2 => k_is)
      (case edC2 => k_is); (case eeC2 => k_is); (case efC2 => k_is); (case egC2 => k_is); (case ehC2 => k_is); (case eaC1 => k_is)
      (case ebC1 => k_is); (case ecC1 => k_is); (case edC1 => k_is); (case eeC1 => k_is); (case efC1 => k_is); (case egC1 => k_is)
      (case ehC1 => k_is); (case n0 => k_is); (case z0 => k_is); (case z1 => k_is); (case z2 => k_is); (case z3 => k_is)
      (case z4 => k_is); (case z5 => k_is); (case z6 => k_is); (case z7 => k_is); (case z8 => k_is); (case z9 => k_is)
      (case z10 => k_is); (case z11 => k_is); (case z12 => k_is); (case z13 => k_is)
    exact ⟨ad, ca, fd, tk, T, fun s v => by rw [e]; exact .of_eq rfl⟩
