import PyProof.Rows.All
import Wide.All
import OpenK.AllK
import Wide.FinOn
import HandS.ForMost
import HandS.ForExc
import HandS.Wide
import HandS.Steps
import PyProof.StrOps2
import HandS.Deep
import HandS.SortInts
import HandS.Zip
import HandS.CallSlots
import HandS.Defaults
import HandS.More
import HandS.IsInst
import HandS.RaiseMore
import HandS.Comp
import HandS.SortKw
import HandS.Dict
import HandS.SortRule
import HandS.Iter
import HandS.DictComp
import PyProof.ListStr
import HandS.Ends
import PyProof.ExcBaseAll.ValueError
import HandS.ListItems
import HandS.Conv
import HandS.Style
import HandS.SetFor
import HandS.TupMul
import KE.DataFind
import PyProof.Rows.StrJoinMade
import PySem.Challenge.RW_hiddenhits_k07_first_wrong_eviction
set_option Elab.async false
set_option linter.all false
set_option maxRecDepth 100000
namespace G
open PySem L2
/-! ## data, and how a value of the heap bears it -/
inductive D where
  | non | bl (b : Bool) | int (i : Int) | str (s : Str) | list (xs : List D) | tup (xs : List D) | dict (es : List (D × D)) | raw (x : V)
def kD : Key → D
  | .inl i => .int i
  | .inr s => .str s
mutual
inductive Rp (K : PySem.W.Frag) (F : Hp) : V → D → Prop
  | non : Rp K F .non .non
  | bl (b : Bool) : Rp K F (.bl b) (.bl b)
  | int (i : Int) : Rp K F (.int i) (.int i)
  | str (x : Str) : Rp K F (.str x) (.str x)
  | lst {a : Addr} {xs : List V} {ds : List D} : Rd F a (.lst xs) → RpL K F xs ds → Rp K F (.ref a) (.list ds)
  | tup {a : Addr} {xs : List V} {ds : List D} : SqT K F a xs → RpL K F xs ds → Rp K F (.ref a) (.tup ds)
  | dic {a : Addr} {kvs : List (Key × V)} {es : List (D × D)} : Rd F a (.dK kvs) → RpK K F kvs es → Rp K F (.ref a) (.dict es)
  | raw (x : V) : Rp K F x (.raw x)
inductive RpL (K : PySem.W.Frag) (F : Hp) : List V → List D → Prop
  | nil : RpL K F [] []
  | cons {v : V} {vs : List V} {d : D} {ds : List D} : Rp K F v d → RpL K F vs ds → RpL K F (v :: vs) (d :: ds)
inductive RpK (K : PySem.W.Frag) (F : Hp) : List (Key × V) → List (D × D) → Prop
  | nil : RpK K F [] []
  | cons {k : Key} {v : V} {kvs : List (Key × V)} {d : D} {es : List (D × D)} : Rp K F v d → RpK K F kvs es → RpK K F ((k, v) :: kvs) ((kD k, d) :: es)
end
/-- what can be read stays readable -/
def Le (F F' : Hp) : Prop := ∀ a u, Rd F a u → Rd F' a u
theorem Le.refl (F : Hp) : Le F F := fun _ _ h => h
theorem Le.trans {F F1 F2 : Hp} (a : Le F F1) (b : Le F1 F2) : Le F F2 := fun x u h => b x u (a x u h)
theorem Rd.ne_none {F : Hp} {a : Addr} {u : HO} (h : Rd F a u) : F a ≠ none := by
  rcases h with h | ⟨o, h⟩ <;> simp [h]
theorem Le.new {F : Hp} {p : Addr} {o : HO} (h : F p = none) : Le F (upd F p o) := fun a u e => by
  have hn : a ≠ p := fun z => by subst z; exact Rd.ne_none e h
  unfold Rd at *; rw [upd_ne hn]; exact e
theorem Le.sq {K : PySem.W.Frag} {F F' : Hp} {a : Addr} {xs : List V} (e : Le F F') (h : SqL K F a xs) : SqL K F' a xs := by
  rcases h with h | h
  · exact .inl (e _ _ h)
  · exact .inr h
theorem Le.st {K : PySem.W.Frag} {F F' : Hp} {a : Addr} {xs : List V} (e : Le F F') (h : SqT K F a xs) : SqT K F' a xs := by
  rcases h with h | h
  · exact .inl (e _ _ h)
  · exact .inr h
mutual
theorem Rp.mono {K : PySem.W.Frag} {F F' : Hp} (e : Le F F') : ∀ (d : D) (v : V), Rp K F v d → Rp K F' v d
  | .non, _, h => by cases h; exact .non
  | .bl _, _, h => by cases h; exact .bl _
  | .int _, _, h => by cases h; exact .int _
  | .str _, _, h => by cases h; exact .str _
  | .raw _, _, h => by cases h; exact .raw _
  | .list ds, _, h => by
    cases h with
    | lst a b => exact .lst (e _ _ a) (RpL.mono e ds _ b)
  | .tup ds, _, h => by
    cases h with
    | tup a b => exact .tup (e.st a) (RpL.mono e ds _ b)
  | .dict es, _, h => by
    cases h with
    | dic a b => exact .dic (e _ _ a) (RpK.mono e es _ b)
theorem RpL.mono {K : PySem.W.Frag} {F F' : Hp} (e : Le F F') : ∀ (ds : List D) (vs : List V), RpL K F vs ds → RpL K F' vs ds
  | [], _, h => by cases h; exact .nil
  | d :: ds, _, h => by
    cases h with
    | cons a b => exact .cons (Rp.mono e d _ a) (RpL.mono e ds _ b)
theorem RpK.mono {K : PySem.W.Frag} {F F' : Hp} (e : Le F F') : ∀ (es : List (D × D)) (kvs : List (Key × V)), RpK K F kvs es → RpK K F' kvs es
  | [], _, h => by cases h; exact .nil
  | (k, d) :: es, _, h => by
    cases h with
    | cons a b => exact .cons (Rp.mono e d _ a) (RpK.mono e es _ b)
end
section
variable {K : PySem.W.Frag} {F : Hp}
theorem RpL.len : ∀ {vs : List V} {ds : List D}, RpL K F vs ds → vs.length = ds.length
  | _, _, .nil => rfl
  | _, _, .cons _ t => by simp [RpL.len t]
theorem RpL.get : ∀ {vs : List V} {ds : List D} {i : Nat} {d : D}, RpL K F vs ds → ds[i]? = some d → ∃ v, vs[i]? = some v ∧ Rp K F v d
  | _, _, _, _, .nil, e => by simp at e
  | _, _, 0, _, .cons r _, e => by simp at e; subst e; exact ⟨_, rfl, r⟩
  | _, _, i + 1, d, .cons _ t, e => by
    obtain ⟨v, h1, h2⟩ := RpL.get (i := i) (d := d) t (by simpa using e)
    exact ⟨v, by simpa using h1, h2⟩
theorem RpL.at : ∀ {vs : List V} {ds : List D} {i : Nat} {v : V}, RpL K F vs ds → vs[i]? = some v → ∃ d, ds[i]? = some d ∧ Rp K F v d
  | _, _, _, _, .nil, e => by simp at e
  | _, _, 0, _, .cons r _, e => by simp at e; subst e; exact ⟨_, rfl, r⟩
  | _, _, i + 1, d, .cons _ t, e => by
    obtain ⟨v, h1, h2⟩ := RpL.at (i := i) (v := d) t (by simpa using e)
    exact ⟨v, by simpa using h1, h2⟩
theorem RpL.app : ∀ {vs ws : List V} {ds es : List D}, RpL K F vs ds → RpL K F ws es → RpL K F (vs ++ ws) (ds ++ es)
  | _, _, _, _, .nil, s => s
  | _, _, _, _, .cons r t, s => .cons r (RpL.app t s)
theorem RpL.take : ∀ {vs : List V} {ds : List D} (n : Nat), RpL K F vs ds → RpL K F (vs.take n) (ds.take n)
  | _, _, 0, _ => by simpa using RpL.nil
  | _, _, _ + 1, .nil => by simpa using RpL.nil
  | _, _, n + 1, .cons r t => by simpa using RpL.cons r (RpL.take n t)
theorem RpL.drop : ∀ {vs : List V} {ds : List D} (n : Nat), RpL K F vs ds → RpL K F (vs.drop n) (ds.drop n)
  | _, _, 0, h => by simpa using h
  | _, _, _ + 1, .nil => by simpa using RpL.nil
  | _, _, n + 1, .cons r t => by simpa using RpL.drop n t
theorem RpL.set : ∀ {vs : List V} {ds : List D} (n : Nat) {v : V} {d : D}, RpL K F vs ds → Rp K F v d → RpL K F (vs.set n v) (ds.set n d)
  | _, _, _, _, _, .nil, _ => .nil
  | _, _, 0, _, _, .cons r t, h => .cons h t
  | _, _, n + 1, _, _, .cons r t, h => .cons r (RpL.set n t h)
theorem RpL.era : ∀ {vs : List V} {ds : List D} (n : Nat), RpL K F vs ds → RpL K F (vs.eraseIdx n) (ds.eraseIdx n)
  | _, _, _, .nil => by simpa using RpL.nil
  | _, _, 0, .cons r t => by simpa using t
  | _, _, n + 1, .cons r t => by simpa using RpL.cons r (RpL.era n t)
theorem RpL.dl {vs : List V} {ds : List D} (h : RpL K F vs ds) : RpL K F vs.dropLast ds.dropLast := by
  rw [List.dropLast_eq_take, List.dropLast_eq_take, h.len]; exact h.take _
theorem RpL.one {v : V} {d : D} (h : Rp K F v d) : RpL K F [v] [d] := .cons h .nil
theorem RpL.rev : ∀ {vs : List V} {ds : List D}, RpL K F vs ds → RpL K F vs.reverse ds.reverse
  | _, _, .nil => .nil
  | _, _, .cons r t => by simpa using RpL.app (RpL.rev t) (RpL.one r)
theorem RpL.ints : ∀ {vs : List V} {ns : List Int}, RpL K F vs (ns.map D.int) → vs = ns.map V.int
  | _, [], h => by cases h; rfl
  | _, n :: ns, h => by
    cases h with
    | cons r t => cases r; rw [RpL.ints t]; rfl
theorem RpL.strs : ∀ {vs : List V} {ns : List Str}, RpL K F vs (ns.map D.str) → vs = ns.map V.str
  | _, [], h => by cases h; rfl
  | _, n :: ns, h => by
    cases h with
    | cons r t => cases r; rw [RpL.strs t]; rfl
theorem RpL.bls : ∀ {vs : List V} {ns : List Bool}, RpL K F vs (ns.map D.bl) → vs = ns.map V.bl
  | _, [], h => by cases h; rfl
  | _, n :: ns, h => by
    cases h with
    | cons r t => cases r; rw [RpL.bls t]; rfl
theorem RpL.of_ints : ∀ (ns : List Int), RpL K F (ns.map V.int) (ns.map D.int)
  | [] => .nil
  | n :: ns => .cons (.int n) (RpL.of_ints ns)
theorem RpL.of_strs : ∀ (ns : List Str), RpL K F (ns.map V.str) (ns.map D.str)
  | [] => .nil
  | n :: ns => .cons (.str n) (RpL.of_strs ns)
end
/-! ## slots -/
inductive Sl where
  | un | v (d : D) | ow (q : Option Addr) (d : D) | rd (d : D) | al (i : Nat) | sc (ds : List D)
def Top (K : PySem.W.Frag) (F : Hp) (o : HO) : D → Prop
  | .list ds => ∃ xs, o = .lst xs ∧ RpL K F xs ds
  | .dict es => ∃ kvs, o = .dK kvs ∧ RpK K F kvs es
  | _ => False
theorem Top.mono {K : PySem.W.Frag} {F F' : Hp} (e : Le F F') {o : HO} {d : D} (h : Top K F o d) : Top K F' o d := by
  cases d <;> simp only [Top] at h ⊢ <;> try exact h
  · obtain ⟨xs, a, b⟩ := h; exact ⟨xs, a, RpL.mono e _ _ b⟩
  · obtain ⟨xs, a, b⟩ := h; exact ⟨xs, a, RpK.mono e _ _ b⟩
theorem Top.rp {K : PySem.W.Frag} {F : Hp} {p : Addr} {o : HO} {d : D} (h : Top K F o d) (e : Rd F p o) : Rp K F (.ref p) d := by
  cases d <;> simp only [Top] at h
  · obtain ⟨xs, rfl, b⟩ := h; exact .lst e b
  · obtain ⟨xs, rfl, b⟩ := h; exact .dic e b
theorem Top.mut {K : PySem.W.Frag} {F : Hp} {o : HO} {d : D} (h : Top K F o d) : Mut (some o) := by
  cases d <;> simp only [Top] at h
  · obtain ⟨xs, rfl, b⟩ := h; trivial
  · obtain ⟨xs, rfl, b⟩ := h; trivial
structure EC where
  K : PySem.W.Frag
  F0 : Hp
  H0 : Hp
  io : List Addr
/-- the slots L bear the values ρ: F the frozen part of the heap H -/
structure Env (C : EC) (L : List Sl) (ρ : List (Option V)) (F H : Hp) : Prop where
  len : ρ.length = L.length
  sub : Le F H
  va : ∀ (i : Nat) d, L[i]? = some (.v d) → ∃ x, ρ[i]? = some (some x) ∧ Rp C.K F x d
  ow : ∀ (i : Nat) q d, L[i]? = some (.ow q d) → ∃ p o, ρ[i]? = some (some (.ref p)) ∧ H p = some o ∧ F p = none ∧ Top C.K F o d ∧ (C.H0 p = none ∨ p ∈ C.io) ∧ ∀ p', q = some p' → p = p'
  rd : ∀ (i : Nat) d, L[i]? = some (.rd d) → ∃ x, ρ[i]? = some (some x) ∧ (Rp C.K F x d ∨ ∃ p o, x = .ref p ∧ Rd H p o ∧ Top C.K F o d ∧ ∀ (j : Nat) q d', L[j]? = some (.ow q d') → ρ[j]? = some (some (.ref p)) → False)
  al : ∀ (i j : Nat), L[i]? = some (.al j) → j < i ∧ ∃ x, ρ[i]? = some (some x) ∧ ρ[j]? = some (some x)
  sc : ∀ (i : Nat) ds, L[i]? = some (.sc ds) → ∃ p xs, ρ[i]? = some (some (.ref p)) ∧ ((∃ ob, H p = some (.frz ob (.lst xs))) ∨ ∀ H', SqL C.K H' p xs) ∧ RpL C.K F xs ds
  apart : ∀ (i j : Nat) p q d q' d', i ≠ j → L[i]? = some (.ow q d) → L[j]? = some (.ow q' d') → ρ[i]? = some (some (.ref p)) → ρ[j]? = some (some (.ref p)) → False
  hold : ∀ b o, C.H0 b = some o → b ∉ C.io → H b = some o
  gg : Le C.F0 F ∧ ∀ b o u, F b ≠ some (.frz o u)
  gn : ∀ b, F b ≠ none → C.F0 b ≠ none ∨ C.H0 b = none ∨ b ∈ C.io
section
variable {C : EC} {L : List Sl} {ρ : List (Option V)} {F H : Hp}
/-- one place k is new, the others are as they were or forgotten -/
theorem Env.one {L' : List Sl} {ρ' : List (Option V)} {F' H' : Hp} (k : Nat) (E : Env C L ρ F H) (hl : ρ'.length = L'.length)
    (old : ∀ (i : Nat) s, i ≠ k → L'[i]? = some s → s = .un ∨ (L[i]? = some s ∧ ρ'[i]? = ρ[i]? ∧ ∀ j : Nat, s = .al j → ρ'[j]? = ρ[j]?))
    (hF : Le F F') (hS : Le F' H')
    (kow : ∀ (i : Nat) q d p o, i ≠ k → L[i]? = some (.ow q d) → ρ[i]? = some (some (.ref p)) → H p = some o → H' p = some o ∧ F' p = none)
    (krd : ∀ (i : Nat) d p o, i ≠ k → L[i]? = some (.rd d) → ρ[i]? = some (some (.ref p)) → Rd H p o → (∀ (j : Nat) q d', L[j]? = some (.ow q d') → ρ[j]? = some (some (.ref p)) → False) → Rd H' p o)
    (nv : ∀ d, L'[k]? = some (.v d) → ∃ x, ρ'[k]? = some (some x) ∧ Rp C.K F' x d)
    (now : ∀ q d, L'[k]? = some (.ow q d) → ∃ p o, ρ'[k]? = some (some (.ref p)) ∧ H' p = some o ∧ F' p = none ∧ Top C.K F' o d ∧ (C.H0 p = none ∨ p ∈ C.io) ∧ (∀ p', q = some p' → p = p') ∧
      (∀ (i : Nat) q' d', i ≠ k → L[i]? = some (.ow q' d') → ρ[i]? = some (some (.ref p)) → False) ∧ ∀ (i : Nat) d', i ≠ k → L[i]? = some (.rd d') → ρ[i]? = some (some (.ref p)) → Rp C.K F (.ref p) d')
    (nrd : ∀ d, L'[k]? = some (.rd d) → ∃ x, ρ'[k]? = some (some x) ∧ (Rp C.K F' x d ∨ ∃ p o, x = .ref p ∧ Rd H' p o ∧ Top C.K F' o d ∧ ∀ (j : Nat) q d', j ≠ k → L[j]? = some (.ow q d') → ρ[j]? = some (some (.ref p)) → False))
    (nal : ∀ j, L'[k]? = some (.al j) → j < k ∧ ∃ x, ρ'[k]? = some (some x) ∧ ρ'[j]? = some (some x))
    (nsc : ∀ ds, L'[k]? = some (.sc ds) → False) (hz : ∀ p ob u, H p = some (.frz ob u) → H' p = some (.frz ob u))
    (hh : ∀ b o, C.H0 b = some o → b ∉ C.io → H b = some o → H' b = some o)
    (hn : ∀ b, F' b ≠ none → F b = none → C.H0 b = none ∨ b ∈ C.io) (hnz : ∀ b o u, F' b = some (.frz o u) → F b = some (.frz o u) := by intro _ _ _ h; exact h) : Env C L' ρ' F' H' := by
  refine ⟨hl, hS, ?_, ?_, ?_, ?_, ?_, ?_, fun b o e n => hh b o e n (E.hold b o e n), ⟨E.gg.1.trans hF, fun b o u h => E.gg.2 b o u (hnz b o u h)⟩, ?_⟩
  · intro i d hi
    by_cases hk : i = k
    · subst hk; exact nv d hi
    · rcases old i _ hk hi with h | ⟨h1, h2, _⟩
      · cases h
      · obtain ⟨x, a, b⟩ := E.va i d h1
        exact ⟨x, h2.trans a, Rp.mono hF _ _ b⟩
  · intro i q d hi
    by_cases hk : i = k
    · subst hk
      obtain ⟨p, o, a, b, c, e, f, g, _⟩ := now q d hi
      exact ⟨p, o, a, b, c, e, f, g⟩
    · rcases old i _ hk hi with h | ⟨h1, h2, _⟩
      · cases h
      · obtain ⟨p, o, a, b, c, e, f⟩ := E.ow i q d h1
        obtain ⟨g1, g2⟩ := kow i q d p o hk h1 a b
        exact ⟨p, o, h2.trans a, g1, g2, e.mono hF, f⟩
  · intro i d hi
    by_cases hk : i = k
    · subst hk
      obtain ⟨x, a, b⟩ := nrd d hi
      refine ⟨x, a, b.imp id ?_⟩
      rintro ⟨p, o, e1, e2, e3, e4⟩
      refine ⟨p, o, e1, e2, e3, fun j q d' hj hj2 => ?_⟩
      by_cases hjk : j = i
      · subst hjk; rw [hi] at hj; cases hj
      · rcases old j _ hjk hj with h | ⟨h1, h2, _⟩
        · cases h
        · exact e4 j q d' hjk h1 (h2.symm.trans hj2)
    · rcases old i _ hk hi with h | ⟨h1, h2, _⟩
      · cases h
      · obtain ⟨x, a, b⟩ := E.rd i d h1
        refine ⟨x, h2.trans a, ?_⟩
        rcases b with b | ⟨p, o, e1, e2, e3, e4⟩
        · exact .inl (Rp.mono hF _ _ b)
        · subst e1
          by_cases hex : ∃ q d', L'[k]? = some (.ow q d') ∧ ρ'[k]? = some (some (.ref p))
          · obtain ⟨q, d', g1, g2⟩ := hex
            obtain ⟨p', o', a', b', c', e', f', _, g', q'⟩ := now q d' g1
            rw [g2] at a'; cases a'
            exact .inl (Rp.mono hF _ _ (q' i d hk h1 a))
          · refine .inr ⟨p, o, rfl, krd i d p o hk h1 a e2 e4, e3.mono hF, fun j q d' hj hj2 => ?_⟩
            by_cases hjk : j = k
            · subst hjk; exact hex ⟨q, d', hj, hj2⟩
            · rcases old j _ hjk hj with h | ⟨h3, h4, _⟩
              · cases h
              · exact e4 j q d' h3 (h4.symm.trans hj2)
  · intro i j hi
    by_cases hk : i = k
    · subst hk; exact nal j hi
    · rcases old i _ hk hi with h | ⟨h1, h2, h3⟩
      · cases h
      · obtain ⟨a, x, b, c⟩ := E.al i j h1
        exact ⟨a, x, h2.trans b, (h3 j rfl).trans c⟩
  · intro i ds hi
    by_cases hk : i = k
    · subst hk; exact (nsc ds hi).elim
    · rcases old i _ hk hi with h | ⟨h1, h2, _⟩
      · cases h
      · obtain ⟨p, xs, a, b, c⟩ := E.sc i ds h1
        refine ⟨p, xs, h2.trans a, b.imp (fun ⟨ob, z⟩ => ⟨ob, hz _ _ _ z⟩) id, RpL.mono hF _ _ c⟩
  · intro i j p q d q2 d' hne h1 h2 h3 h4
    by_cases hi : i = k
    · subst hi
      rcases old j _ (Ne.symm hne) h2 with h | ⟨g1, g2, _⟩
      · cases h
      · obtain ⟨p', o', a', b', c', e', f', _, g', q'⟩ := now q d h1
        rw [h3] at a'; cases a'
        exact g' j q2 d' (Ne.symm hne) g1 (g2.symm.trans h4)
    · rcases old i _ hi h1 with h | ⟨g1, g2, _⟩
      · cases h
      · by_cases hj : j = k
        · subst hj
          obtain ⟨p', o', a', b', c', e', f', _, g', q'⟩ := now q2 d' h2
          rw [h4] at a'; cases a'
          exact g' i q d hi g1 (g2.symm.trans h3)
        · rcases old j _ hj h2 with h | ⟨g3, g4, _⟩
          · cases h
          · exact E.apart i j p q d q2 d' hne g1 g3 (g2.symm.trans h3) (g4.symm.trans h4)
  · intro b hb
    by_cases hf : F b = none
    · exact .inr (hn b hb hf)
    · exact E.gn b hf
theorem nmem_last {α : Type} {L : List α} {s x : α} {i : Nat} (h : i ≠ L.length) (e : (L ++ [x])[i]? = some s) : L[i]? = some s := by
  have h1 := (List.getElem?_eq_some_iff.mp e).1
  rw [List.length_append] at h1
  have h2 : i < L.length := by simp at h1; omega
  rwa [List.getElem?_append_left h2] at e
theorem at_left {α : Type} {L M : List α} {i : Nat} (h : i < L.length) : (L ++ M)[i]? = L[i]? := List.getElem?_append_left h
theorem at_last {α : Type} {L : List α} {x : α} : (L ++ [x])[L.length]? = some x := by simp
theorem lt_of_get {α : Type} {L : List α} {i : Nat} {x : α} (h : L[i]? = some x) : i < L.length := (List.getElem?_eq_some_iff.mp h).1
/-- what stands below a push -/
theorem Env.oldP (E : Env C L ρ F H) {s : Sl} {u : Option V} : ∀ (i : Nat) t, i ≠ L.length → (L ++ [s])[i]? = some t → t = .un ∨ (L[i]? = some t ∧ (ρ ++ [u])[i]? = ρ[i]? ∧ ∀ j : Nat, t = .al j → (ρ ++ [u])[j]? = ρ[j]?) := by
  intro i t hi e
  have h := nmem_last hi e
  have hl := lt_of_get h
  refine .inr ⟨h, at_left (by rw [E.len]; exact hl), fun j ej => ?_⟩
  subst ej
  have := (E.al i j h).1
  exact at_left (by rw [E.len]; omega)
theorem Env.pushV {x : V} {d : D} (E : Env C L ρ F H) (h : Rp C.K F x d) : Env C (L ++ [.v d]) (ρ ++ [some x]) F H := by
  have hl := E.len
  refine E.one L.length (by simp [hl]) E.oldP (Le.refl F) E.sub (fun i q d p o _ h1 h2 h3 => ?_) (fun _ _ _ _ _ _ _ h _ => h) (fun d' e => ?_) (fun q' d' e => ?_) (fun d' e => ?_) (fun j e => ?_) (fun ds e => by rw [at_last] at e; cases e) (fun _ _ _ h => h) (fun _ _ _ _ h => h) (fun b h1 h2 => absurd h2 h1)
  · obtain ⟨p', o', a, b, c, _⟩ := E.ow i q d h1
    rw [h2] at a; cases a
    exact ⟨h3, c⟩
  · rw [at_last] at e; cases e; exact ⟨x, by rw [← hl]; exact at_last, h⟩
  all_goals (rw [at_last] at e; cases e)
theorem Env.pushAl {x : V} {j : Nat} (E : Env C L ρ F H) (hj : j < L.length) (h : ρ[j]? = some (some x)) : Env C (L ++ [.al j]) (ρ ++ [some x]) F H := by
  have hl := E.len
  refine E.one L.length (by simp [hl]) E.oldP (Le.refl F) E.sub (fun i q d p o _ h1 h2 h3 => ?_) (fun _ _ _ _ _ _ _ h _ => h) (fun d' e => ?_) (fun q' d' e => ?_) (fun d' e => ?_) (fun j e => ?_) (fun ds e => by rw [at_last] at e; cases e) (fun _ _ _ h => h) (fun _ _ _ _ h => h) (fun b h1 h2 => absurd h2 h1)
  · obtain ⟨p', o', a, b, c, _⟩ := E.ow i q d h1
    rw [h2] at a; cases a
    exact ⟨h3, c⟩
  · rw [at_last] at e; cases e
  · rw [at_last] at e; cases e
  · rw [at_last] at e; cases e
  · rw [at_last] at e; cases e
    exact ⟨hj, x, by rw [← hl]; exact at_last, by rw [at_left (by omega)]; exact h⟩
/-- a new object, tracked, owned -/
theorem Env.pushOw {p : Addr} {o : HO} {d : D} (E : Env C L ρ F H) (hp : H p = none) (h : Top C.K F o d) : Env C (L ++ [.ow none d]) (ρ ++ [some (.ref p)]) F (upd H p o) := by
  have hl := E.len
  have hFp : F p = none := by
    cases e : F p with
    | none => rfl
    | some z => exact absurd hp (Rd.ne_none (E.sub p z (.inl e)))
  have hH : Le H (upd H p o) := Le.new hp
  have h0 : C.H0 p = none ∨ p ∈ C.io := by
    by_cases hm : p ∈ C.io
    · exact .inr hm
    · cases e : C.H0 p with
      | none => exact .inl rfl
      | some z => rw [E.hold p z e hm] at hp; cases hp
  refine E.one L.length (by simp [hl]) E.oldP (Le.refl F) (E.sub.trans hH) (fun i q d p' o' _ h1 h2 h3 => ?_) (fun _ _ _ _ _ _ _ h _ => hH _ _ h) (fun d' e => ?_) (fun q' d' e => ?_) (fun d' e => ?_) (fun j e => ?_) (fun ds e => by rw [at_last] at e; cases e) (fun a ob u r => by rw [upd_ne (fun z => by subst z; rw [hp] at r; cases r)]; exact r) (fun b o' _ _ h => ?_) (fun b h1 h2 => absurd h2 h1)
  · obtain ⟨p'', o'', a, b, c, _⟩ := E.ow i q d h1
    rw [h2] at a; cases a
    refine ⟨?_, c⟩
    rw [upd_ne (fun z => by subst z; rw [hp] at h3; cases h3)]; exact h3
  · rw [at_last] at e; cases e
  · rw [at_last] at e; cases e
    refine ⟨p, o, by rw [← hl]; exact at_last, upd_same, hFp, h, h0, (fun _ z => nomatch z), fun i q d' _ h1 h2 => ?_, fun i d' _ h1 h2 => ?_⟩
    · obtain ⟨p'', o'', a, b, c, _⟩ := E.ow i q d' h1
      rw [h2] at a; cases a
      rw [hp] at b; cases b
    · obtain ⟨x, a, b⟩ := E.rd i d' h1
      rw [h2] at a; cases a
      rcases b with b | ⟨q, o'', e1, e2, _⟩
      · exact b
      · cases e1; exact absurd hp (Rd.ne_none e2)
  · rw [at_last] at e; cases e
  · rw [at_last] at e; cases e
  · rw [upd_ne (fun z => by subst z; rw [hp] at h; cases h)]; exact h
/-- a new tuple, frozen -/
theorem Env.pushTup {p : Addr} {xs : List V} {ds : List D} (E : Env C L ρ F H) (hp : H p = none) (h : RpL C.K F xs ds) : Env C (L ++ [.v (.tup ds)]) (ρ ++ [some (.ref p)]) (upd F p (.tup xs)) (upd H p (.tup xs)) := by
  have hl := E.len
  have hFp : F p = none := by
    cases e : F p with
    | none => rfl
    | some z => exact absurd hp (Rd.ne_none (E.sub p z (.inl e)))
  have hH : Le H (upd H p (.tup xs)) := Le.new hp
  have hFF : Le F (upd F p (.tup xs)) := Le.new hFp
  have h0 : C.H0 p = none ∨ p ∈ C.io := by
    by_cases hm : p ∈ C.io
    · exact .inr hm
    · cases e : C.H0 p with
      | none => exact .inl rfl
      | some z => rw [E.hold p z e hm] at hp; cases hp
  refine E.one L.length (by simp [hl]) E.oldP hFF (fun a u r => ?_) (fun i q d p' o' _ h1 h2 h3 => ?_) (fun _ _ _ _ _ _ _ h _ => hH _ _ h) (fun d' e => ?_) (fun q' d' e => ?_) (fun d' e => ?_) (fun j e => ?_) (fun ds e => by rw [at_last] at e; cases e) (fun a ob u r => by rw [upd_ne (fun z => by subst z; rw [hp] at r; cases r)]; exact r) (fun b o' _ _ h => ?_) (fun b h1 h2 => ?_) (fun b o u h => by
    by_cases hb : b = p
    · subst hb; rw [upd_same] at h; cases h
    · rwa [upd_ne hb] at h)
  · by_cases ha : a = p
    · subst ha
      unfold Rd at r ⊢; rw [upd_same] at r ⊢; exact r
    · have r' : Rd F a u := by unfold Rd at r ⊢; rwa [upd_ne ha] at r
      exact hH _ _ (E.sub _ _ r')
  · obtain ⟨p'', o'', a, b, c, _⟩ := E.ow i q d h1
    rw [h2] at a; cases a
    have hne : p' ≠ p := fun z => by subst z; rw [hp] at h3; cases h3
    rw [upd_ne hne, upd_ne hne]; exact ⟨h3, c⟩
  · rw [at_last] at e; cases e
    exact ⟨.ref p, by rw [← hl]; exact at_last, .tup (.inl (.inl upd_same)) (RpL.mono hFF _ _ h)⟩
  · rw [at_last] at e; cases e
  · rw [at_last] at e; cases e
  · rw [at_last] at e; cases e
  · rw [upd_ne (fun z => by subst z; rw [hp] at h; cases h)]; exact h
  · by_cases hb : b = p
    · subst hb; exact h0
    · rw [upd_ne hb] at h1; exact absurd h2 h1
/-- the last place goes -/
theorem Env.pop {s : Sl} {u : Option V} (E : Env C (L ++ [s]) (ρ ++ [u]) F H) : Env C L ρ F H := by
  have hl : ρ.length = L.length := by have := E.len; simpa using this
  have lf : ∀ {i : Nat} {t : Sl}, L[i]? = some t → (L ++ [s])[i]? = some t := fun h => by rw [at_left (lt_of_get h)]; exact h
  have rf : ∀ {i : Nat}, i < L.length → (ρ ++ [u])[i]? = ρ[i]? := fun h => at_left (by omega)
  refine ⟨hl, E.sub, fun i d h => ?_, fun i q d h => ?_, fun i d h => ?_, fun i j h => ?_, fun i ds h => ?_, fun i j p q d q' d' hne h1 h2 h3 h4 => ?_, E.hold, E.gg, E.gn⟩
  · rw [← rf (lt_of_get h)]; exact E.va i d (lf h)
  · rw [← rf (lt_of_get h)]; exact E.ow i q d (lf h)
  · rw [← rf (lt_of_get h)]
    obtain ⟨x, a, b⟩ := E.rd i d (lf h)
    refine ⟨x, a, b.imp id ?_⟩
    rintro ⟨p, o, e1, e2, e3, e4⟩
    exact ⟨p, o, e1, e2, e3, fun j q d' hj hj2 => e4 j q d' (lf hj) (by rw [rf (lt_of_get hj)]; exact hj2)⟩
  · obtain ⟨a, x, b, c⟩ := E.al i j (lf h)
    have hi := lt_of_get h
    exact ⟨a, x, by rw [← rf hi]; exact b, by rw [← rf (by omega)]; exact c⟩
  · rw [← rf (lt_of_get h)]; exact E.sc i ds (lf h)
  · exact E.apart i j p q d q' d' hne (lf h1) (lf h2) (by rw [rf (lt_of_get h1)]; exact h3) (by rw [rf (lt_of_get h2)]; exact h4)
/-- more objects, nothing else -/
theorem Env.ext {H' : Hp} (E : Env C L ρ F H) (h : ∀ b o, H b = some o → H' b = some o) : Env C L ρ F H' := by
  have hL : Le H H' := fun a u r => by
    rcases r with r | ⟨o, r⟩
    · exact .inl (h _ _ r)
    · exact .inr ⟨o, h _ _ r⟩
  refine ⟨E.len, E.sub.trans hL, E.va, fun i q d e => ?_, fun i d e => ?_, E.al, fun i ds e => ?_, E.apart, fun b o e n => h _ _ (E.hold b o e n), E.gg, E.gn⟩
  · obtain ⟨p, o, a, b, c⟩ := E.ow i q d e
    exact ⟨p, o, a, h _ _ b, c⟩
  · obtain ⟨x, a, b⟩ := E.rd i d e
    refine ⟨x, a, b.imp id ?_⟩
    rintro ⟨p, o, e1, e2, e3⟩
    exact ⟨p, o, e1, hL _ _ e2, e3⟩
  · obtain ⟨p, xs, a, b, c⟩ := E.sc i ds e
    exact ⟨p, xs, a, b.imp (fun ⟨ob, z⟩ => ⟨ob, h _ _ z⟩) id, c⟩
/-- a slot's owned object is changed -/
theorem Env.write {k : Nat} {q : Option Addr} {d d' : D} {p : Addr} {o' : HO} (E : Env C L ρ F H) (hk : L[k]? = some (.ow q d)) (hp : ρ[k]? = some (some (.ref p))) (h : Top C.K F o' d') : Env C (L.set k (.ow q d')) ρ F (upd H p o') := by
  obtain ⟨p0, o0, a0, b0, c0, t0, f0, g0⟩ := E.ow k q d hk
  rw [hp] at a0; cases a0
  have klt := lt_of_get hk
  have hH : ∀ a u, a ≠ p → Rd H a u → Rd (upd H p o') a u := fun a u n r => by unfold Rd at *; rwa [upd_ne n]
  have hS : Le F (upd H p o') := fun a u r => hH a u (fun z => by subst z; exact Rd.ne_none r c0) (E.sub a u r)
  have ne : ∀ (i : Nat) q2 d2 p2, i ≠ k → L[i]? = some (.ow q2 d2) → ρ[i]? = some (some (.ref p2)) → p2 ≠ p := fun i q2 d2 p2 hi h1 h2 z => by
    subst z; exact E.apart i k p2 q2 d2 q d hi h1 hk h2 hp
  refine E.one k (by simp [E.len]) (fun i s hi e => ?_) (Le.refl F) hS (fun i q2 d2 p2 o2 hi h1 h2 h3 => ?_) (fun i d2 p2 o2 hi h1 h2 h3 h4 => ?_) (fun d2 e => ?_) (fun q2 d2 e => ?_) (fun d2 e => ?_) (fun j e => ?_) (fun ds e => by rw [List.getElem?_set_self klt] at e; cases e) (fun a ob u r => by rw [upd_ne (fun z => by subst z; rw [b0] at r; cases r; exact t0.mut.elim)]; exact r) (fun b o e n h => ?_) (fun b h1 h2 => absurd h2 h1)
  · rw [List.getElem?_set_ne (Ne.symm hi)] at e
    exact .inr ⟨e, rfl, fun _ _ => rfl⟩
  · have n := ne i q2 d2 p2 hi h1 h2
    obtain ⟨p3, o3, a, b, c, _⟩ := E.ow i q2 d2 h1
    rw [h2] at a; cases a
    rw [upd_ne n]; exact ⟨h3, c⟩
  · have n : p2 ≠ p := fun z => by subst z; exact h4 k q d hk hp
    exact hH _ _ n h3
  · rw [List.getElem?_set_self klt] at e; cases e
  · rw [List.getElem?_set_self klt] at e; cases e
    refine ⟨p, o', hp, upd_same, c0, h, f0, g0, fun i q3 d3 hi h1 h2 => E.apart i k p q3 d3 q d hi h1 hk h2 hp, fun i d3 hi h1 h2 => ?_⟩
    obtain ⟨x, a, b⟩ := E.rd i d3 h1
    rw [h2] at a; cases a
    rcases b with b | ⟨p4, o4, e1, e2, e3, e4⟩
    · exact b
    · cases e1; exact (e4 k q d hk hp).elim
  · rw [List.getElem?_set_self klt] at e; cases e
  · rw [List.getElem?_set_self klt] at e; cases e
  · have nb : b ≠ p := fun z => by
      subst z
      rcases f0 with f | f
      · rw [f] at e; cases e
      · exact n f
    rw [upd_ne nb]; exact h
/-- a slot's owned object is frozen -/
theorem Env.freeze {k : Nat} {q : Option Addr} {d : D} (E : Env C L ρ F H) (hk : L[k]? = some (.ow q d)) : ∃ F', Env C (L.set k (.v d)) ρ F' H := by
  obtain ⟨p, o, hp, b0, c0, t0, f0, g0⟩ := E.ow k q d hk
  have klt := lt_of_get hk
  have hF : Le F (upd F p o) := Le.new c0
  have ne : ∀ (i : Nat) q2 d2 p2, i ≠ k → L[i]? = some (.ow q2 d2) → ρ[i]? = some (some (.ref p2)) → p2 ≠ p := fun i q2 d2 p2 hi h1 h2 z => by
    subst z; exact E.apart i k p2 q2 d2 q d hi h1 hk h2 hp
  refine ⟨upd F p o, E.one k (by simp [E.len]) (fun i s hi e => ?_) hF (fun a u r => ?_) (fun i q2 d2 p2 o2 hi h1 h2 h3 => ?_) (fun i d2 p2 o2 hi h1 h2 h3 h4 => h3) (fun d2 e => ?_) (fun q2 d2 e => ?_) (fun d2 e => ?_) (fun j e => ?_) (fun ds e => by rw [List.getElem?_set_self klt] at e; cases e) (fun _ _ _ h => h) (fun b o e n h => h) (fun b h1 h2 => ?_) (fun b o2 u h => by
    by_cases hb : b = p
    · subst hb; rw [upd_same] at h; cases h; exact t0.mut.elim
    · rwa [upd_ne hb] at h)⟩
  · rw [List.getElem?_set_ne (Ne.symm hi)] at e
    exact .inr ⟨e, rfl, fun _ _ => rfl⟩
  · by_cases ha : a = p
    · subst ha
      have hm := t0.mut
      unfold Rd at r; rw [upd_same] at r
      rcases r with r | ⟨ob, r⟩
      · cases r; exact .inl b0
      · cases r; exact hm.elim
    · have r' : Rd F a u := by unfold Rd at r ⊢; rwa [upd_ne ha] at r
      exact E.sub _ _ r'
  · have n := ne i q2 d2 p2 hi h1 h2
    obtain ⟨p3, o3, a, b, c, _⟩ := E.ow i q2 d2 h1
    rw [h2] at a; cases a
    rw [upd_ne n]; exact ⟨h3, c⟩
  · rw [List.getElem?_set_self klt] at e; cases e
    exact ⟨_, hp, (t0.mono hF).rp (.inl upd_same)⟩
  · rw [List.getElem?_set_self klt] at e; cases e
  · rw [List.getElem?_set_self klt] at e; cases e
  · rw [List.getElem?_set_self klt] at e; cases e
  · by_cases hb : b = p
    · subst hb; exact f0
    · rw [upd_ne hb] at h1; exact absurd h2 h1
inductive W1 : Sl → Sl → Prop
  | un (s) : W1 s .un
  | rfl (s) : W1 s s
  | fo (q d) : W1 (.ow q d) (.ow none d)
  | od (q d) : W1 (.ow q d) (.rd d)
  | vr (d) : W1 (.v d) (.rd d)
inductive WL : List Sl → List Sl → Prop
  | nil : WL [] []
  | cons {s t L M} : W1 s t → WL L M → WL (s :: L) (t :: M)
theorem WL.refl : ∀ L, WL L L
  | [] => .nil
  | s :: L => .cons (.rfl s) (WL.refl L)
theorem WL.len : ∀ {L M : List Sl}, WL L M → L.length = M.length
  | _, _, .nil => rfl
  | _, _, .cons _ t => by simp [WL.len t]
theorem WL.get : ∀ {L M : List Sl} {i : Nat} {t : Sl}, WL L M → M[i]? = some t → ∃ s, L[i]? = some s ∧ W1 s t
  | _, _, _, _, .nil, e => by simp at e
  | _, _, 0, _, .cons r _, e => by simp at e; subst e; exact ⟨_, rfl, r⟩
  | _, _, i + 1, _, .cons _ t, e => by
    obtain ⟨v, h1, h2⟩ := WL.get (i := i) t (by simpa using e)
    exact ⟨v, by simpa using h1, h2⟩
theorem WL.app : ∀ {L M L' M' : List Sl}, WL L M → WL L' M' → WL (L ++ L') (M ++ M')
  | _, _, _, _, .nil, h => h
  | _, _, _, _, .cons a b, h => .cons a (WL.app b h)
theorem Env.wk {M : List Sl} (E : Env C L ρ F H) (w : WL L M) : Env C M ρ F H := by
  have ow : ∀ (i : Nat) q d, M[i]? = some (.ow q d) → ∃ q', L[i]? = some (.ow q' d) ∧ ∀ p, q = some p → q' = some p := fun i q d h => by
    obtain ⟨s, h1, h2⟩ := w.get h
    cases h2 with
    | rfl => exact ⟨q, h1, fun _ z => z⟩
    | fo q' d => exact ⟨q', h1, fun _ z => nomatch z⟩
  refine ⟨E.len.trans w.len, E.sub, fun i d h => ?_, fun i q d h => ?_, fun i d h => ?_, fun i j h => ?_, fun i ds h => ?_, fun i j p q d q' d' hne h1 h2 h3 h4 => ?_, E.hold, E.gg, E.gn⟩
  · obtain ⟨s, h1, h2⟩ := w.get h
    cases h2 with
    | rfl => exact E.va i d h1
  · obtain ⟨q', h1, h2⟩ := ow i q d h
    obtain ⟨p, o, a, b, c, e, f, g⟩ := E.ow i q' d h1
    exact ⟨p, o, a, b, c, e, f, fun p' z => g p' (h2 p' z)⟩
  · obtain ⟨s, h1, h2⟩ := w.get h
    cases h2 with
    | rfl =>
      obtain ⟨x, a, b⟩ := E.rd i d h1
      refine ⟨x, a, b.imp id ?_⟩
      rintro ⟨p, o, e1, e2, e3, e4⟩
      refine ⟨p, o, e1, e2, e3, fun j q d' hj hj2 => ?_⟩
      obtain ⟨q', g1, _⟩ := ow j q d' hj
      exact e4 j q' d' g1 hj2
    | od q d =>
      obtain ⟨p, o, a, b, c, e, f, g⟩ := E.ow i q d h1
      refine ⟨_, a, .inr ⟨p, o, rfl, .inl b, e, fun j q2 d' hj hj2 => ?_⟩⟩
      obtain ⟨q', g1, _⟩ := ow j q2 d' hj
      by_cases hij : i = j
      · subst hij; rw [h] at hj; cases hj
      · exact E.apart i j p q d q' d' hij h1 g1 a hj2
    | vr d =>
      obtain ⟨x, a, b⟩ := E.va i d h1
      exact ⟨x, a, .inl b⟩
  · obtain ⟨s, h1, h2⟩ := w.get h
    cases h2 with
    | rfl => exact E.al i j h1
  · obtain ⟨s, h1, h2⟩ := w.get h
    cases h2 with
    | rfl => exact E.sc i ds h1
  · obtain ⟨q1, g1, _⟩ := ow i q d h1
    obtain ⟨q2, g2, _⟩ := ow j q' d' h2
    exact E.apart i j p q1 d q2 d' hne g1 g2 h3 h4
def nosc : Sl → Bool
  | .sc _ => false
  | _ => true
def noal : Sl → Bool
  | .al _ => false
  | _ => true
def noalk (k : Nat) : Sl → Bool
  | .al j => decide (j ≠ k)
  | _ => true
/-- the last place goes into the slot k -/
theorem Env.setv {k : Nat} {s : Sl} {u : Option V} (E : Env C (L ++ [s]) (ρ ++ [u]) F H) (hk : k < L.length) (hs : nosc s = true) (hs2 : noal s = true) (ha : L.all (noalk k) = true) : Env C (L.set k s) (ρ.set k u) F H := by
  have hl : ρ.length = L.length := by have := E.len; simpa using this
  have E0 := E.pop
  have hla : (L ++ [s])[L.length]? = some s := at_last
  have rla : (ρ ++ [u])[L.length]? = some u := by rw [← hl]; exact at_last
  have kk : (L.set k s)[k]? = some s := List.getElem?_set_self hk
  have rk : (ρ.set k u)[k]? = some u := List.getElem?_set_self (by omega)
  have nal : ∀ (i j : Nat), L[i]? = some (.al j) → j ≠ k := fun i j h => by
    have := List.all_eq_true.mp ha _ (List.mem_of_getElem? h)
    simpa [noalk] using this
  have lf : ∀ {i : Nat} {t : Sl}, L[i]? = some t → (L ++ [s])[i]? = some t := fun h => by rw [at_left (lt_of_get h)]; exact h
  have rf : ∀ {i : Nat}, i < L.length → (ρ ++ [u])[i]? = ρ[i]? := fun h => at_left (by omega)
  refine E0.one k (by simp [hl]) (fun i t hi e => ?_) (Le.refl F) E.sub (fun i q d p o hi h1 h2 h3 => ?_) (fun _ _ _ _ _ _ _ h _ => h) (fun d e => ?_) (fun q d e => ?_) (fun d e => ?_) (fun j e => by rw [kk] at e; cases e; cases hs2) (fun ds e => by rw [kk] at e; cases e; cases hs) (fun _ _ _ h => h) (fun _ _ _ _ h => h) (fun b h1 h2 => absurd h2 h1)
  · have e' := e
    rw [List.getElem?_set_ne (Ne.symm hi)] at e
    exact .inr ⟨e, List.getElem?_set_ne (Ne.symm hi), fun j z => by subst z; exact List.getElem?_set_ne (Ne.symm (nal _ _ e))⟩
  · obtain ⟨p', o', a, b, c, _⟩ := E0.ow i q d h1
    rw [h2] at a; cases a
    exact ⟨h3, c⟩
  · rw [kk] at e; cases e
    obtain ⟨x, a, b⟩ := E.va _ d hla
    rw [rla] at a; cases a
    exact ⟨x, rk, b⟩
  · rw [kk] at e; cases e
    obtain ⟨p, o, a, b, c, t, f, g⟩ := E.ow _ q d hla
    rw [rla] at a; cases a
    refine ⟨p, o, rk, b, c, t, f, g, fun i q' d' _ h1 h2 => ?_, fun i d' _ h1 h2 => ?_⟩
    · have hi := lt_of_get h1
      exact E.apart i L.length p q' d' q d (by omega) (lf h1) hla (by rw [rf hi]; exact h2) rla
    · have hi := lt_of_get h1
      obtain ⟨x, a, b⟩ := E.rd i d' (lf h1)
      rw [rf hi, h2] at a; cases a
      rcases b with b | ⟨p4, o4, e1, e2, e3, e4⟩
      · exact b
      · cases e1; exact (e4 _ q d hla rla).elim
  · rw [kk] at e; cases e
    obtain ⟨x, a, b⟩ := E.rd _ d hla
    rw [rla] at a; cases a
    refine ⟨x, rk, b.imp id ?_⟩
    rintro ⟨p, o, e1, e2, e3, e4⟩
    exact ⟨p, o, e1, e2, e3, fun j q d' _ h1 h2 => e4 j q d' (lf h1) (by rw [rf (lt_of_get h1)]; exact h2)⟩
/-- what a slot is to be read as -/
def vw (L : List Sl) : Sl → Option D
  | .v d => some d
  | .ow _ d => some d
  | .rd d => some d
  | .al i => match L[i]? with
    | some (.v d) => some d
    | some (.ow _ d) => some d
    | some (.rd d) => some d
    | _ => none
  | .un => none
  | .sc _ => none
/-- read now: the value itself, or an object whose parts are frozen -/
def Rn (K : PySem.W.Frag) (F H : Hp) (x : V) (d : D) : Prop := Rp K F x d ∨ ∃ p o, x = .ref p ∧ Rd H p o ∧ Top K F o d
theorem Env.view {i : Nat} {s : Sl} {d : D} (E : Env C L ρ F H) (hi : L[i]? = some s) (h : vw L s = some d) : ∃ x, ρ[i]? = some (some x) ∧ Rn C.K F H x d := by
  have base : ∀ {i : Nat} {s : Sl}, L[i]? = some s → (s = .v d ∨ (∃ q, s = .ow q d) ∨ s = .rd d) → ∃ x, ρ[i]? = some (some x) ∧ Rn C.K F H x d := fun {i s} hi h => by
    rcases h with rfl | ⟨q, rfl⟩ | rfl
    · obtain ⟨x, a, b⟩ := E.va i d hi
      exact ⟨x, a, .inl b⟩
    · obtain ⟨p, o, a, b, c, e, _⟩ := E.ow i q d hi
      exact ⟨_, a, .inr ⟨p, o, rfl, .inl b, e⟩⟩
    · obtain ⟨x, a, b⟩ := E.rd i d hi
      rcases b with b | ⟨p, o, e1, e2, e3, _⟩
      · exact ⟨x, a, .inl b⟩
      · exact ⟨x, a, .inr ⟨p, o, e1, e2, e3⟩⟩
  cases s with
  | un => cases h
  | sc ds => cases h
  | v d' => cases h; exact base hi (.inl rfl)
  | ow q d' => cases h; exact base hi (.inr (.inl ⟨q, rfl⟩))
  | rd d' => cases h; exact base hi (.inr (.inr rfl))
  | al j =>
    obtain ⟨_, x, a, b⟩ := E.al i j hi
    have key : ∃ t, L[j]? = some t ∧ (t = .v d ∨ (∃ q, t = .ow q d) ∨ t = .rd d) := by
      simp only [vw] at h
      split at h
      · cases h; exact ⟨_, by assumption, .inl rfl⟩
      · cases h; exact ⟨_, by assumption, .inr (.inl ⟨_, rfl⟩)⟩
      · cases h; exact ⟨_, by assumption, .inr (.inr rfl)⟩
      · cases h
    obtain ⟨t, h1, h2⟩ := key
    obtain ⟨y, c, e⟩ := base h1 h2
    rw [b] at c; cases c
    exact ⟨_, a, e⟩
theorem Rn.rp {K : PySem.W.Frag} {F H : Hp} {x : V} {d : D} (h : Rn K F H x d) (e : Le F H) : Rp K H x d := by
  rcases h with h | ⟨p, o, rfl, a, b⟩
  · exact Rp.mono e _ _ h
  · exact (b.mono e).rp a
/-- a list that is read: its address, its items -/
theorem Rn.list {K : PySem.W.Frag} {F H : Hp} {x : V} {ds : List D} (h : Rn K F H x (.list ds)) (e : Le F H) : ∃ p xs, x = .ref p ∧ Rd H p (.lst xs) ∧ RpL K F xs ds := by
  rcases h with h | ⟨p, o, rfl, a, b⟩
  · cases h with
    | lst a b => exact ⟨_, _, rfl, e _ _ a, b⟩
  · obtain ⟨xs, rfl, b⟩ := b
    exact ⟨p, xs, rfl, a, b⟩
/-- the script -/
def vs (L : List Sl) : Sl → Option (List D)
  | .sc ds => some ds
  | .al i => match L[i]? with
    | some (.sc ds) => some ds
    | _ => none
  | _ => none
theorem Env.viewS {i : Nat} {s : Sl} {ds : List D} (E : Env C L ρ F H) (hi : L[i]? = some s) (h : vs L s = some ds) : ∃ p xs, ρ[i]? = some (some (.ref p)) ∧ SqL C.K H p xs ∧ RpL C.K F xs ds := by
  have base : ∀ {i : Nat}, L[i]? = some (.sc ds) → ∃ p xs, ρ[i]? = some (some (.ref p)) ∧ SqL C.K H p xs ∧ RpL C.K F xs ds := fun {i} hi => by
    obtain ⟨p, xs, a, b, c⟩ := E.sc i ds hi
    refine ⟨p, xs, a, ?_, c⟩
    rcases b with ⟨ob, b⟩ | b
    · exact .inl (.inr ⟨ob, b⟩)
    · exact b H
  cases s with
  | sc ds' => cases h; exact base hi
  | al j =>
    obtain ⟨_, x, a, b⟩ := E.al i j hi
    have key : L[j]? = some (.sc ds) := by
      simp only [vs] at h
      split at h
      · cases h; assumption
      · cases h
    obtain ⟨p, xs, c, e⟩ := base key
    rw [b] at c; cases c
    exact ⟨p, xs, a, e⟩
  | un => cases h
  | v d' => cases h
  | ow q d' => cases h
  | rd d' => cases h
theorem Rn.tup {K : PySem.W.Frag} {F H : Hp} {x : V} {ds : List D} (h : Rn K F H x (.tup ds)) (e : Le F H) : ∃ p xs, x = .ref p ∧ SqT K H p xs ∧ RpL K F xs ds := by
  rcases h with h | ⟨p, o, rfl, a, b⟩
  · cases h with
    | tup a b => exact ⟨_, _, rfl, e.st a, b⟩
  · exact b.elim
theorem Rn.dict {K : PySem.W.Frag} {F H : Hp} {x : V} {es : List (D × D)} (h : Rn K F H x (.dict es)) (e : Le F H) : ∃ p kvs, x = .ref p ∧ Rd H p (.dK kvs) ∧ RpK K F kvs es := by
  rcases h with h | ⟨p, o, rfl, a, b⟩
  · cases h with
    | dic a b => exact ⟨_, _, rfl, e _ _ a, b⟩
  · obtain ⟨xs, rfl, b⟩ := b
    exact ⟨p, xs, rfl, a, b⟩
theorem Rn.int {K : PySem.W.Frag} {F H : Hp} {x : V} {i : Int} (h : Rn K F H x (.int i)) : x = .int i := by
  rcases h with h | ⟨p, o, rfl, a, b⟩
  · cases h; rfl
  · exact b.elim
theorem Rn.str {K : PySem.W.Frag} {F H : Hp} {x : V} {i : Str} (h : Rn K F H x (.str i)) : x = .str i := by
  rcases h with h | ⟨p, o, rfl, a, b⟩
  · cases h; rfl
  · exact b.elim
theorem Rn.bl {K : PySem.W.Frag} {F H : Hp} {x : V} {i : Bool} (h : Rn K F H x (.bl i)) : x = .bl i := by
  rcases h with h | ⟨p, o, rfl, a, b⟩
  · cases h; rfl
  · exact b.elim
theorem Rn.non {K : PySem.W.Frag} {F H : Hp} {x : V} (h : Rn K F H x .non) : x = .non := by
  rcases h with h | ⟨p, o, rfl, a, b⟩
  · cases h; rfl
  · exact b.elim
end
/-! ### a new list, or None -/
def optD : Option (List D) → D
  | some l => .list l
  | none => .non
def optS : Option (List D) → Sl
  | some l => .ow none (.list l)
  | none => .v .non
theorem optS_noal (o : Option (List D)) : noal (optS o) = true := by cases o <;> rfl
theorem optS_c (o : Option (List D)) : noal (optS o) = true ∧ nosc (optS o) = true ∧ ∀ d, optS o ≠ .rd d := by cases o <;> exact ⟨rfl, rfl, fun _ => nofun⟩
end G
namespace G
open PySem L2
/-! ## results -/
structure Exn where
  name : Str
  fld : Option (Str × D)
inductive Res (α : Type) where
  | ok (a : α) | exc (x : Exn) | bad
def Res.bind {α β : Type} (m : Res α) (f : α → Res β) : Res β := match m with
  | .ok a => f a
  | .exc x => .exc x
  | .bad => .bad
def Res.map {α β : Type} (f : α → β) (m : Res α) : Res β := m.bind fun a => .ok (f a)
@[simp] theorem Res.bind_ok {α β : Type} (a : α) (f : α → Res β) : (Res.ok a).bind f = f a := rfl
@[simp] theorem Res.bind_bad {α β : Type} (f : α → Res β) : (Res.bad : Res α).bind f = .bad := rfl
@[simp] theorem Res.bind_exc {α β : Type} (x : Exn) (f : α → Res β) : (Res.exc x : Res α).bind f = .exc x := rfl
@[simp] theorem Res.bind_id {α : Type} (m : Res α) : m.bind (fun a => .ok a) = m := by cases m <;> rfl
/-! ## what can be done, by some rule -/
def Can (X : Cx) (e : Expr) : TE := fun σ H Q => ∃ t, PE X e t ∧ t σ H Q
theorem can {X : Cx} {e : Expr} : PE X e (Can X e) := ⟨fun pins s σ H Q I ⟨_, h, q⟩ => h.run pins s σ H Q I q⟩
def CanT (X : Cx) (e : Expr) : TT := fun σ H Q => ∃ t, PT X e t ∧ t σ H Q
theorem canT {X : Cx} {e : Expr} : PT X e (CanT X e) := ⟨fun pins s σ H Q I ⟨_, h, q⟩ => h.run pins s σ H Q I q⟩
def CanA (X : Cx) (es : List Expr) : TA := fun σ H Q => ∃ t, PA X es t ∧ t σ H Q
theorem canA {X : Cx} {es : List Expr} : PA X es (CanA X es) := ⟨fun pos pins s σ H Q I ⟨_, h, q⟩ => h.run pos pins s σ H Q I q⟩
def CanS (X : Cx) (st : Stmt) : TS := fun D σ H => ∃ t, PS X st t ∧ t D σ H
theorem canS {X : Cx} {st : Stmt} : PS X st (CanS X st) := ⟨fun pins s σ H D I ⟨_, h, q⟩ => h.run pins s σ H D I q⟩
def CanB (X : Cx) (sts : List Stmt) : TS := fun D σ H => ∃ t, PSs X sts t ∧ t D σ H
theorem canB {X : Cx} {sts : List Stmt} : PSs X sts (CanB X sts) := ⟨fun pins s σ H D I ⟨_, h, q⟩ => h.run pins s σ H D I q⟩
/-! ## the judgements -/
def ExIs (X : Cx) (x : Exn) (cls : Value) (d : Option Addr) (H : Hp) : Prop :=
  X.mg x.name = some cls ∧ match x.fld with
    | none => d = none
    | some (f, v) => ∃ q u, d = some q ∧ H q = some (.xd [(f, u)]) ∧ Rp X.K (fun _ => none) u v
/-- what is wished of an exception: W; what is then known of the names: S -/
structure Wx where
  W : WX
  S : List Sl
def ExH (X : Cx) (w : Wx) (C : EC) (σ : St) (x : Exn) : Prop := ∀ cls d F' H', Env C w.S σ F' H' → ExIs X x cls d H' → w.W cls d σ H'
section
variable {α β γ : Type}
def EvE (X : Cx) (w : Wx) (e : Expr) (S Ts : List Sl) (m : Res α) (S' : α → List Sl) (R : α → Sl) : Prop :=
  ∀ (C : EC) (σ : St) (τ : List (Option V)) (F H : Hp) (Q : VK), C.K = X.K → τ.length = Ts.length → Env C (S ++ Ts) (σ ++ τ) F H →
    (∀ a, m = .ok a → ∀ u F' H', Env C (S' a ++ Ts ++ [R a]) (σ ++ τ ++ [some u]) F' H' → Q u H') → (∀ x, m = .exc x → ExH X w C σ x) → m ≠ .bad → Can X e σ H Q
/-- a test -/
def EvT (X : Cx) (w : Wx) (e : Expr) (S Ts : List Sl) (m : Res α) (S' : α → List Sl) (b : α → Bool) : Prop :=
  ∀ (C : EC) (σ : St) (τ : List (Option V)) (F H : Hp) (Q : Bool → Hp → Prop), C.K = X.K → τ.length = Ts.length → Env C (S ++ Ts) (σ ++ τ) F H →
    (∀ a, m = .ok a → ∀ F' H', Env C (S' a ++ Ts) (σ ++ τ) F' H' → Q (b a) H') → (∀ x, m = .exc x → ExH X w C σ x) → m ≠ .bad → CanT X e σ H Q
/-- arguments -/
def EvA (X : Cx) (w : Wx) (es : List Expr) (S Ts : List Sl) (m : Res α) (S' : α → List Sl) (Rs : α → List Sl) : Prop :=
  ∀ (C : EC) (σ : St) (τ : List (Option V)) (F H : Hp) (Q : List V → Hp → Prop), C.K = X.K → τ.length = Ts.length → Env C (S ++ Ts) (σ ++ τ) F H →
    (∀ a, m = .ok a → ∀ us F' H', us.length = (Rs a).length → Env C (S' a ++ Ts ++ Rs a) (σ ++ τ ++ us.map some) F' H' → Q us H') → (∀ x, m = .exc x → ExH X w C σ x) → m ≠ .bad → CanA X es σ H Q
end
section
variable {α β γ : Type} {X : Cx} {w : Wx} {S Ts : List Sl}
theorem ok_bind {m : Res α} {f : α → Res β} {a : α} (h : m = .ok a) : m.bind f = f a := by rw [h]; rfl
theorem exc_bind {m : Res α} {f : α → Res β} {x : Exn} (h : m = .exc x) : m.bind f = .exc x := by rw [h]; rfl
theorem bad_bind {m : Res α} {f : α → Res β} (h : m = .bad) : m.bind f = .bad := by rw [h]; rfl
theorem nil_len {C : EC} {L M : List Sl} {ρ π : List (Option V)} {F H : Hp} (E : Env C (L ++ M) (ρ ++ π) F H) (h : π.length = M.length) : ρ.length = L.length := by
  have := E.len; simp at this; omega
/-- one after the other -/
theorem ev2 {e1 e2 : Expr} {m1 : Res α} {S1 : α → List Sl} {R1 : α → Sl} {m2 : α → Res β} {S2 : α → β → List Sl} {R2 : α → β → Sl} (g : α → β → Res γ)
    (h1 : EvE X w e1 S Ts m1 S1 R1) (h2 : ∀ a, EvE X w e2 (S1 a) (Ts ++ [R1 a]) (m2 a) (S2 a) (R2 a))
    {C : EC} {σ : St} {τ : List (Option V)} {F H : Hp} (hK : C.K = X.K) (hτ : τ.length = Ts.length) (E : Env C (S ++ Ts) (σ ++ τ) F H) (K2 : V → V → Hp → Prop)
    (hk : ∀ a b, m1 = .ok a → m2 a = .ok b → ∀ u v F' H', Env C (S2 a b ++ Ts ++ [R1 a] ++ [R2 a b]) (σ ++ τ ++ [some u] ++ [some v]) F' H' → K2 u v H')
    (hx : ∀ x, (m1.bind fun a => (m2 a).bind (g a)) = .exc x → ExH X w C σ x) (hb : (m1.bind fun a => (m2 a).bind (g a)) ≠ .bad) :
    Can X e1 σ H fun u H1 => Can X e2 σ H1 fun v H2 => K2 u v H2 := by
  refine h1 C σ τ F H _ hK hτ E (fun a ha u F1 H1 E1 => ?_) (fun x ex => hx x (exc_bind ex)) (fun eb => hb (bad_bind eb))
  have e1 : (m1.bind fun a => (m2 a).bind (g a)) = (m2 a).bind (g a) := ok_bind ha
  rw [e1] at hx hb
  refine h2 a C σ (τ ++ [some u]) F1 H1 _ hK (by simp [hτ]) (by rw [List.append_assoc, List.append_assoc] at E1; exact E1) (fun b hb2 v F2 H2 E2 => ?_) (fun x ex => hx x (exc_bind ex)) (fun eb => hb (bad_bind eb))
  refine hk a b ha hb2 u v F2 H2 ?_
  simpa only [List.append_assoc] using E2
/-! ### constants, names -/
theorem ev_c {e : Expr} {x : V} {d : D} (h : PE X e (tC x)) (r : ∀ F, Rp X.K F x d) : EvE X w e S Ts (.ok d) (fun _ => S) .v := by
  intro C σ τ F H Q hK hτ E hq _ _
  exact ⟨_, h, hq d rfl x F H (E.pushV (by rw [hK]; exact r F))⟩
theorem ev_int {i : Int} {j : Nat} {pos : Pos} : EvE X w (.Constant (.int i) j pos) S Ts (.ok (.int i)) (fun _ => S) .v := ev_c pe_int fun _ => .int i
theorem ev_bl {i : Bool} {j : Nat} {pos : Pos} : EvE X w (.Constant (.bool i) j pos) S Ts (.ok (.bl i)) (fun _ => S) .v := ev_c pe_bl fun _ => .bl i
theorem ev_str {i : Str} {j : Nat} {pos : Pos} : EvE X w (.Constant (.str i) j pos) S Ts (.ok (.str i)) (fun _ => S) .v := ev_c pe_str fun _ => .str i
theorem ev_non {j : Nat} {pos : Pos} : EvE X w (.Constant .none j pos) S Ts (.ok .non) (fun _ => S) .v := ev_c pe_non fun _ => .non
theorem ev_glob {x : Str} {v : V} {u : Value} {d : D} {pos : Pos} (hm : X.mg x = some u) (r : RelV v u) (rd : ∀ F, Rp X.K F v d) (hg : Gl X x := by rfl) (hd : (x == ("__debug__" : Str)) = false := by decide) : EvE X w (.Name x pos) S Ts (.ok d) (fun _ => S) .v :=
  ev_c (pe_glob hg hm r hd) rd
theorem ev_gint {x : Str} {i : Int} {t : Tok} {pos : Pos} (hm : X.mg x = some (.int i t)) (hg : Gl X x := by rfl) (hd : (x == ("__debug__" : Str)) = false := by decide) : EvE X w (.Name x pos) S Ts (.ok (.int i)) (fun _ => S) .v :=
  ev_glob (v := .int i) hm ⟨t, rfl⟩ (fun _ => .int i) hg hd
theorem ev_gstr {x : Str} {i : Str} {t : Tok} {pos : Pos} (hm : X.mg x = some (.str i t)) (hg : Gl X x := by rfl) (hd : (x == ("__debug__" : Str)) = false := by decide) : EvE X w (.Name x pos) S Ts (.ok (.str i)) (fun _ => S) .v :=
  ev_glob (v := .str i) hm ⟨t, rfl⟩ (fun _ => .str i) hg hd
/-- a name whose value is frozen -/
theorem ev_v (i : Nat) {x : Str} {d : D} {pos : Pos} (hs : S[i]? = some (.v d) := by rfl) (hN : X.N[i]? = some x := by rfl) (hv : Vis X.env.scope x := by first | exact Or.inl rfl | exact Or.inr (Or.inl rfl) | exact Or.inr (Or.inr rfl))
    (hd : (x == ("__debug__" : Str)) = false := by decide) (hcd : (x == ("__classdict__" : Str)) = false := by decide) : EvE X w (.Name x pos) S Ts (.ok d) (fun _ => S) .v := by
  intro C σ τ F H Q hK hτ E hq _ _
  have hl := nil_len E hτ
  have hi := lt_of_get hs
  obtain ⟨u, a, b⟩ := E.va i d (by rw [at_left hi]; exact hs)
  rw [at_left (by omega)] at a
  exact ⟨_, pe_var hN hv hd hcd, u, a, hq d rfl u F H (E.pushV b)⟩
/-- .. that may be read: known by its place -/
theorem ev_al (i : Nat) {x : Str} {s : Sl} {pos : Pos} (hs : S[i]? = some s := by rfl) (hu : (∃ d, vw S s = some d) ∨ ∃ d, vs S s = some d := by first | exact .inl ⟨_, rfl⟩ | exact .inr ⟨_, rfl⟩) (hN : X.N[i]? = some x := by rfl)
    (hv : Vis X.env.scope x := by first | exact Or.inl rfl | exact Or.inr (Or.inl rfl) | exact Or.inr (Or.inr rfl))
    (hd : (x == ("__debug__" : Str)) = false := by decide) (hcd : (x == ("__classdict__" : Str)) = false := by decide) : EvE X w (.Name x pos) S Ts (.ok ()) (fun _ => S) (fun _ => .al i) := by
  intro C σ τ F H Q hK hτ E hq _ _
  have hl := nil_len E hτ
  have hi := lt_of_get hs
  have hs' : (S ++ Ts)[i]? = some s := by rw [at_left hi]; exact hs
  have key : ∃ u, (σ ++ τ)[i]? = some (some u) := by
    rcases hu with ⟨d, hu⟩ | ⟨d, hu⟩
    · cases s with
      | un => cases hu
      | sc ds => cases hu
      | v d' => obtain ⟨u, a, _⟩ := E.va i d' hs'; exact ⟨u, a⟩
      | ow q d' => obtain ⟨p, o, a, _⟩ := E.ow i q d' hs'; exact ⟨_, a⟩
      | rd d' => obtain ⟨p, a, _⟩ := E.rd i d' hs'; exact ⟨_, a⟩
      | al j => obtain ⟨_, u, a, _⟩ := E.al i j hs'; exact ⟨u, a⟩
    · cases s with
      | un => cases hu
      | sc ds => obtain ⟨p, xs, a, _⟩ := E.sc i ds hs'; exact ⟨_, a⟩
      | v d' => cases hu
      | ow q d' => cases hu
      | rd d' => cases hu
      | al j => obtain ⟨_, u, a, _⟩ := E.al i j hs'; exact ⟨u, a⟩
  obtain ⟨u, hu2⟩ := key
  have hu3 := hu2
  rw [at_left (by omega)] at hu3
  exact ⟨_, pe_var hN hv hd hcd, u, hu3, hq () rfl u F H (E.pushAl (by simp; omega) hu2)⟩
/-! ### views on temporaries -/
theorem vw_app {L M : List Sl} {s : Sl} {d : D} (h : vw L s = some d) : vw (L ++ M) s = some d := by
  cases s with
  | al j =>
    simp only [vw] at h ⊢
    have hj : j < L.length := by
      split at h
      · exact lt_of_get (by assumption)
      · exact lt_of_get (by assumption)
      · exact lt_of_get (by assumption)
      · cases h
    rw [at_left hj]; exact h
  | _ => exact h
theorem vs_app {L M : List Sl} {s : Sl} {d : List D} (h : vs L s = some d) : vs (L ++ M) s = some d := by
  cases s with
  | al j =>
    simp only [vs] at h ⊢
    have hj : j < L.length := by
      split at h
      · exact lt_of_get (by assumption)
      · cases h
    rw [at_left hj]; exact h
  | _ => exact h
theorem Env.last {C : EC} {L T : List Sl} {s : Sl} {ρ : List (Option V)} {u : V} {F H : Hp} {d : D} (E : Env C (L ++ T ++ [s]) (ρ ++ [some u]) F H) (h : vw L s = some d) : Rn C.K F H u d := by
  have hl : ρ.length = (L ++ T).length := by have := E.len; simp at this ⊢; omega
  obtain ⟨x, a, b⟩ := E.view (i := (L ++ T).length) at_last (by rw [List.append_assoc]; exact vw_app h)
  rw [← hl, at_last] at a; cases a
  exact b
theorem Env.lastS {C : EC} {L T : List Sl} {s : Sl} {ρ : List (Option V)} {u : V} {F H : Hp} {d : List D} (E : Env C (L ++ T ++ [s]) (ρ ++ [some u]) F H) (h : vs L s = some d) : ∃ p xs, u = .ref p ∧ SqL C.K H p xs ∧ RpL C.K F xs d := by
  have hl : ρ.length = (L ++ T).length := by have := E.len; simp at this ⊢; omega
  obtain ⟨p, xs, a, b⟩ := E.viewS (i := (L ++ T).length) at_last (by rw [List.append_assoc]; exact vs_app h)
  rw [← hl, at_last] at a; cases a
  exact ⟨p, xs, rfl, b⟩
theorem Env.last2 {C : EC} {L T : List Sl} {r s : Sl} {ρ : List (Option V)} {u v : V} {F H : Hp} {d : D} (E : Env C (L ++ T ++ [r] ++ [s]) (ρ ++ [some u] ++ [some v]) F H) (h : vw L r = some d) : Rn C.K F H u d := E.pop.last h
/-! ### binary operations on scalars -/
def sizeOk (n : Nat) : Bool := decide (n ≤ sizeLine)
def repS (x : Str) (n : Nat) : Str := ⟨(List.replicate n x.cps).foldl (· ++ ·) #[]⟩
def opB : Operator → D → D → Res D
  | .Add, .int a, .int b => .ok (.int (a + b))
  | .Add, .str a, .str b => if a.length + b.length ≤ sizeLine then .ok (.str (a ++ b)) else .bad
  | .Sub, .int a, .int b => .ok (.int (a - b))
  | .Mult, .int a, .int b => if a.natAbs.log2 + b.natAbs.log2 < 1000000 then .ok (.int (a * b)) else .bad
  | .Mult, .str a, .int b => if 0 ≤ b ∧ b < 1000000 ∧ a.length * b.toNat ≤ sizeLine ∧ (repS a b.toNat).length ≤ sizeLine then .ok (.str (repS a b.toNat)) else .bad
  | .FloorDiv, .int a, .int b => if 0 < b ∧ b.natAbs.log2 < 9000 then .ok (.int (a / b)) else .bad
  | .Mod, .int a, .int b => if 0 < b then .ok (.int (a % b)) else .bad
  | .Pow, .int a, .int b => if 0 ≤ b ∧ b ≤ 1000 ∧ a.natAbs.log2 < 100000 then .ok (.int (a ^ b.toNat)) else .bad
  | _, _, _ => .bad
theorem op_powW : OpR X (binaryOp .Pow) (rI (fun i j => 0 ≤ j ∧ j ≤ 1000 ∧ i.natAbs.log2 < 100000) fun i j => .int (i ^ j.toNat)) := opI fun i j _ _ _ _ _ hc q => by
  refine PyProof.Rows.pow_int hc.1 ?_ q
  have h1 : Builtin.Int.intBits i ≤ 100001 := by
    unfold Builtin.Int.intBits
    have := hc.2.2
    split <;> omega
  have h2 := hc.2.1
  have h3 := hc.1
  have : (Builtin.Int.intBits i : Int) * j ≤ 100001 * 1000 := Int.mul_le_mul (by omega) h2 h3 (by omega)
  omega
theorem op_mulS : OpR X (binaryOp .Mult) (fun x y H Q => ∃ (a : Str) (b : Int), x = .str a ∧ y = .int b ∧ (0 ≤ b ∧ b < 1000000 ∧ a.length * b.toNat ≤ sizeLine ∧ (repS a b.toNat).length ≤ sizeLine) ∧ Q (.str (repS a b.toNat)) H) := by
  intro pins s σ H x y v u Q I rx ry h
  obtain ⟨a, b, rfl, rfl, ⟨h1, h2, h3, h4⟩, q⟩ := h
  obtain ⟨t, rfl⟩ := rx
  obtain ⟨t', rfl⟩ := ry
  have sz : sizeLine = 16777216 := rfl
  refine PySem.P.mul_str ?_ (fun hb _ => ?_) (fun _ _ => ?_) ?_
  · rw [decide_eq_false (by omega), decide_eq_false (by omega)]; rfl
  · have : (a.length : Int) * b ≤ 16777216 := by
      have := h3
      have e : (a.length : Int) * b = ((a.length * b.toNat : Nat) : Int) := by
        rw [Int.natCast_mul, Int.toNat_of_nonneg h1]
      rw [e]; omega
    have h5 : (a.length : Int) ≤ (2 ^ 63 - 1) / b := (Int.le_ediv_iff_mul_le (by omega)).mpr (by omega)
    omega
  · show decide (a.length * b.toNat > sizeLine) = false
    simpa using h3
  · split
    · have : b.toNat = 0 := by omega
      rw [this] at q h4
      exact ⟨by decide, .str (repS a 0), H, I.tok _, ⟨_, rfl⟩, q⟩
    · split
      · rename_i hc
        have e : repS a b.toNat = a := by
          rw [Bool.or_eq_true, beq_iff_eq, beq_iff_eq] at hc
          rcases hc with rfl | hc
          · show (⟨(List.replicate 1 a.cps).foldl (· ++ ·) #[]⟩ : Str) = a
            simp
          · have hz : a.cps = #[] := by
              have : a.cps.size = 0 := hc
              exact Array.size_eq_zero_iff.mp this
            unfold repS
            cases a; cases hz
            congr 1
            generalize b.toNat = n
            induction n with
            | zero => rfl
            | succ n ih => simpa [List.replicate_succ] using ih
        rw [e] at q
        exact ⟨.str a, H, I, ⟨t, rfl⟩, q⟩
      · exact ⟨h4, .str _, H, I.tok _, ⟨_, rfl⟩, q⟩
def rU (X : Cx) (f : Value → Value → Sem Value) : R2 := fun x y H Q => ∃ r, OpR X f r ∧ r x y H Q
theorem opU {f : Value → Value → Sem Value} : OpR X f (rU X f) := fun pins s σ H x y v u Q I rx ry ⟨_, h, q⟩ => h pins s σ H x y v u Q I rx ry q
theorem opB_ok {op : Operator} {d1 d2 d : D} {F H : Hp} {u v : V} (h : opB op d1 d2 = .ok d) (r1 : Rn X.K F H u d1) (r2 : Rn X.K F H v d2) : ∃ z, Rp X.K F z d ∧ ∀ Q : VK, Q z H → rU X (binaryOp op) u v H Q := by
  unfold opB at h
  split at h
  · cases h; cases r1.int; cases r2.int
    exact ⟨_, .int _, fun Q q => ⟨_, op_add, _, _, rfl, rfl, q⟩⟩
  · split at h
    · cases h; cases r1.str; cases r2.str
      exact ⟨_, .str _, fun Q q => ⟨_, op_add_str, _, _, rfl, rfl, by assumption, q⟩⟩
    · cases h
  · cases h; cases r1.int; cases r2.int
    exact ⟨_, .int _, fun Q q => ⟨_, op_sub, _, _, rfl, rfl, q⟩⟩
  · split at h
    · cases h; cases r1.int; cases r2.int
      exact ⟨_, .int _, fun Q q => ⟨_, op_mulW, _, _, rfl, rfl, by assumption, q⟩⟩
    · cases h
  · split at h
    · cases h; cases r1.str; cases r2.int
      exact ⟨_, .str _, fun Q q => ⟨_, op_mulS, _, _, rfl, rfl, by assumption, q⟩⟩
    · cases h
  · split at h
    · cases h; cases r1.int; cases r2.int
      exact ⟨_, .int _, fun Q q => ⟨_, op_fdivW, _, _, rfl, rfl, by assumption, q⟩⟩
    · cases h
  · split at h
    · cases h; cases r1.int; cases r2.int
      exact ⟨_, .int _, fun Q q => ⟨_, op_mod, _, _, rfl, rfl, by assumption, q⟩⟩
    · cases h
  · split at h
    · cases h; cases r1.int; cases r2.int
      exact ⟨_, .int _, fun Q q => ⟨_, op_powW, _, _, rfl, rfl, by assumption, q⟩⟩
    · cases h
  · cases h
section
variable {e1 e2 : Expr} {m1 : Res α} {S1 : α → List Sl} {R1 : α → Sl} {m2 : α → Res β} {S2 : α → β → List Sl} {R2 : α → β → Sl} {pos : Pos}
/-- a two-place operation whose answer is frozen -/
theorem ev_rU {f : Value → Value → Sem Value} {op : D → D → Res D} {e : Expr} (S' : γ → List Sl) (R : γ → Sl) (pk : α → β → D → γ) (d1 d2 : α → β → D)
    (hpe : ∀ {ta tb : TE}, PE X e1 ta → PE X e2 tb → PE X e (tOp (rU X f) ta tb))
    (hop : ∀ {d1 d2 d : D} {F H : Hp} {u v : V}, Le F H → op d1 d2 = .ok d → Rn X.K F H u d1 → Rn X.K F H v d2 → ∃ z, Rp X.K F z d ∧ ∀ Q : VK, Q z H → rU X f u v H Q) (hne : ∀ {d1 d2 : D} {x : Exn}, op d1 d2 = .exc x → False)
    (h1 : EvE X w e1 S Ts m1 S1 R1) (h2 : ∀ a, EvE X w e2 (S1 a) (Ts ++ [R1 a]) (m2 a) (S2 a) (R2 a))
    (v1 : ∀ a b, vw (S2 a b) (R1 a) = some (d1 a b)) (v2 : ∀ a b, vw (S2 a b) (R2 a b) = some (d2 a b)) (hS : ∀ a b d, S' (pk a b d) = S2 a b) (hR : ∀ a b d, R (pk a b d) = .v d) :
    EvE X w e S Ts (m1.bind fun a => (m2 a).bind fun b => (op (d1 a b) (d2 a b)).bind fun d => .ok (pk a b d)) S' R := by
  intro C σ τ F H Q hK hτ E hq hx hb
  refine ⟨_, hpe can can, ?_⟩
  refine ev2 _ h1 h2 hK hτ E _ (fun a b ha hb2 u v F' H' E' => ?_) hx hb
  rw [ok_bind ha, ok_bind hb2] at hq hx hb
  have r1 := E'.last2 (v1 a b)
  have r2 := Env.last (T := Ts ++ [R1 a]) (ρ := σ ++ τ ++ [some u]) (by rw [← List.append_assoc]; exact E') (v2 a b)
  rw [hK] at r1 r2
  cases eo : op (d1 a b) (d2 a b) with
  | bad => rw [eo] at hb; exact absurd rfl hb
  | exc x => exact (hne eo).elim
  | ok d =>
    rw [eo] at hq
    obtain ⟨z, rz, k⟩ := hop E'.sub eo r1 r2
    refine k _ (hq (pk a b d) rfl z F' H' ?_)
    rw [hS, hR]
    exact E'.pop.pop.pushV (by rw [hK]; exact rz)
theorem opB_ne {op : Operator} {d1 d2 : D} {x : Exn} (h : opB op d1 d2 = .exc x) : False := by
  unfold opB at h
  split at h <;> (first | cases h | (split at h <;> cases h))
theorem ev_bin {op : Operator} (S' : γ → List Sl) (R : γ → Sl) (pk : α → β → D → γ) (d1 d2 : α → β → D) (h1 : EvE X w e1 S Ts m1 S1 R1) (h2 : ∀ a, EvE X w e2 (S1 a) (Ts ++ [R1 a]) (m2 a) (S2 a) (R2 a))
    (v1 : ∀ a b, vw (S2 a b) (R1 a) = some (d1 a b) := by intros; rfl) (v2 : ∀ a b, vw (S2 a b) (R2 a b) = some (d2 a b) := by intros; rfl) (hS : ∀ a b d, S' (pk a b d) = S2 a b := by intros; rfl) (hR : ∀ a b d, R (pk a b d) = .v d := by intros; rfl) :
    EvE X w (.BinOp e1 op e2 pos) S Ts (m1.bind fun a => (m2 a).bind fun b => (opB op (d1 a b) (d2 a b)).bind fun d => .ok (pk a b d)) S' R :=
  ev_rU S' R pk d1 d2 (fun h1 h2 => pe_op opU h1 h2) (fun _ h r1 r2 => opB_ok h r1 r2) opB_ne h1 h2 v1 v2 hS hR
end
end
end G
namespace G
open PySem L2
theorem Env.pre {C : EC} {L M : List Sl} {ρ π : List (Option V)} {F H : Hp} (h : π.length = M.length) (E : Env C (L ++ M) (ρ ++ π) F H) : Env C L ρ F H := by
  generalize hn : M.length = n
  induction n generalizing M π with
  | zero =>
    have h1 : M = [] := List.length_eq_zero_iff.mp hn
    have h2 : π = [] := List.length_eq_zero_iff.mp (by omega)
    subst h1 h2
    simpa using E
  | succ n ih =>
    rcases List.eq_nil_or_concat π with e | ⟨π', u, e⟩
    · subst e; simp at h; omega
    · rcases List.eq_nil_or_concat M with e2 | ⟨M', s, e2⟩
      · subst e2; simp at hn
      · subst e e2
        rw [List.concat_eq_append] at E h
        rw [List.concat_eq_append] at E h hn
        refine ih (π := π') (M := M') (by simpa using h) ?_ (by simpa using hn)
        rw [← List.append_assoc, ← List.append_assoc] at E
        exact E.pop
inductive RnL (K : PySem.W.Frag) (F H : Hp) : List V → List D → Prop
  | nil : RnL K F H [] []
  | cons {v vs d ds} : Rn K F H v d → RnL K F H vs ds → RnL K F H (v :: vs) (d :: ds)
inductive VwL (L : List Sl) : List Sl → List D → Prop
  | nil : VwL L [] []
  | cons {s ss d ds} : vw L s = some d → VwL L ss ds → VwL L (s :: ss) (d :: ds)
theorem Env.lasts {C : EC} {L T Rs : List Sl} {ρ : List (Option V)} {us : List V} {F H : Hp} {ds : List D} (h : us.length = Rs.length) (E : Env C (L ++ T ++ Rs) (ρ ++ us.map some) F H) (v : VwL L Rs ds) : RnL C.K F H us ds := by
  induction v generalizing T ρ us with
  | nil =>
    have : us = [] := List.length_eq_zero_iff.mp (by simpa using h)
    subst this; exact .nil
  | @cons s ss d ds hv _ ih =>
    cases us with
    | nil => simp at h
    | cons u us =>
      have E1 : Env C (L ++ T ++ [s] ++ ss) (ρ ++ [some u] ++ us.map some) F H := by simpa using E
      refine .cons ?_ (ih (T := T ++ [s]) (ρ := ρ ++ [some u]) (by simpa using h) (by simpa using E1))
      exact (E1.pre (by simpa using h)).last hv
section
variable {α β γ δ : Type} {X : Cx} {w : Wx} {S Ts : List Sl} {m : Res α} {m1 : Res α} {S' : γ → List Sl} {R : γ → Sl} {S1 : α → List Sl} {R1 : α → Sl}
/-! ### arguments -/
theorem ea_nil : EvA X w [] S Ts (.ok ()) (fun _ => S) (fun _ => []) := by
  intro C σ τ F H Q hK hτ E hq _ _
  exact ⟨_, pa_nil, hq () rfl [] F H rfl (by simpa using E)⟩
theorem ea_cons {e : Expr} {es : List Expr} {m2 : α → Res β} {S2 : α → β → List Sl} {R2 : α → β → List Sl} {Rs : γ → List Sl} (S' : γ → List Sl) (pk : α → β → γ)
    (h1 : EvE X w e S Ts m1 S1 R1) (h2 : ∀ a, EvA X w es (S1 a) (Ts ++ [R1 a]) (m2 a) (S2 a) (R2 a)) (hS : ∀ a b, S' (pk a b) = S2 a b := by intros; rfl) (hR : ∀ a b, Rs (pk a b) = R1 a :: R2 a b := by intros; rfl)
    (hs : starEach (e :: es) X.env = (false, eval e X.env) :: starEach es X.env := by rfl) :
    EvA X w (e :: es) S Ts (m1.bind fun a => (m2 a).bind fun b => .ok (pk a b)) S' Rs := by
  intro C σ τ F H Q hK hτ E hq hx hb
  refine ⟨_, pa_cons can canA hs, ?_⟩
  refine h1 C σ τ F H _ hK hτ E (fun a ha u F1 H1 E1 => ?_) (fun x ex => hx x (exc_bind ex)) (fun eb => hb (bad_bind eb))
  rw [ok_bind ha] at hq hx hb
  refine h2 a C σ (τ ++ [some u]) F1 H1 _ hK (by simp [hτ]) (by rw [List.append_assoc, List.append_assoc] at E1; exact E1) (fun b hb2 us F2 H2 hl E2 => ?_) (fun x ex => hx x (exc_bind ex)) (fun eb => hb (bad_bind eb))
  rw [ok_bind hb2] at hq
  refine hq (pk a b) rfl (u :: us) F2 H2 (by rw [hR]; simp [hl]) ?_
  rw [hS, hR]
  simpa only [List.append_assoc, List.map_cons, List.cons_append, List.nil_append] using E2
/-- one argument -/
theorem ea_one {e : Expr} (h1 : EvE X w e S Ts m1 S1 R1) (hs : starEach [e] X.env = [(false, eval e X.env)] := by rfl) : EvA X w [e] S Ts m1 S1 (fun a => [R1 a]) := by
  intro C σ τ F H Q hK hτ E hq hx hb
  refine ⟨_, pa_cons can pa_nil hs, ?_⟩
  exact h1 C σ τ F H _ hK hτ E (fun a ha u F1 H1 E1 => hq a ha [u] F1 H1 rfl (by simpa using E1)) hx hb
/-! ### calls of built-ins -/
def rC (X : Cx) (f : Value) : List V → Hp → VK → Prop := fun xs H Q => ∃ r, CallR X f r ∧ r xs H Q
theorem callU {f : Value} : CallR X f (rC X f) := fun pins s σ H xs us Q I r ⟨_, h, q⟩ => h pins s σ H xs us Q I r q
theorem ev_cS {f : Value} {e : Expr} {es : List Expr} {Rs : α → List Sl} {op : List D → Res D} (pk : α → D → γ) (ds : α → List D)
    (hpe : ∀ {ta : TA}, PA X es ta → PE X e (tCB (rC X f) ta))
    (hop : ∀ {ds : List D} {d : D} {F H : Hp} {us : List V}, Le F H → op ds = .ok d → RnL X.K F H us ds → ∃ z, Rp X.K F z d ∧ ∀ Q : VK, Q z H → rC X f us H Q) (hne : ∀ {ds : List D} {x : Exn}, op ds = .exc x → False)
    (ha : EvA X w es S Ts m S1 Rs) (hv : ∀ a, VwL (S1 a) (Rs a) (ds a)) (hS : ∀ a d, S' (pk a d) = S1 a) (hR : ∀ a d, R (pk a d) = .v d) :
    EvE X w e S Ts (m.bind fun a => (op (ds a)).bind fun d => .ok (pk a d)) S' R := by
  intro C σ τ F H Q hK hτ E hq hx hb
  refine ⟨_, hpe canA, ?_⟩
  refine ha C σ τ F H _ hK hτ E (fun a ha us F1 H1 hl E1 => ?_) (fun x ex => hx x (exc_bind ex)) (fun eb => hb (bad_bind eb))
  rw [ok_bind ha] at hq hb
  have rs := E1.lasts hl (hv a)
  rw [hK] at rs
  cases eo : op (ds a) with
  | bad => rw [eo] at hb; exact absurd rfl hb
  | exc x => exact (hne eo).elim
  | ok d =>
    rw [eo] at hq
    obtain ⟨z, rz, k⟩ := hop E1.sub eo rs
    refine k _ (hq (pk a d) rfl z F1 H1 ?_)
    rw [hS, hR]
    exact (E1.pre (by simpa using hl)).pushV (by rw [hK]; exact rz)
/-- .. that make a new list -/
theorem ev_cN {f : Value} {e : Expr} {es : List Expr} {Rs : α → List Sl} {op : List D → Res (List D)} (pk : α → List D → γ) (ds : α → List D)
    (hpe : ∀ {ta : TA}, PA X es ta → PE X e (tCB (rC X f) ta))
    (hop : ∀ {ds es : List D} {F H : Hp} {us : List V}, Le F H → op ds = .ok es → RnL X.K F H us ds → ∀ Q : VK, (∀ p xs, H p = none → RpL X.K F xs es → Q (.ref p) (upd H p (.lst xs))) → rC X f us H Q) (hne : ∀ {ds : List D} {x : Exn}, op ds = .exc x → False)
    (ha : EvA X w es S Ts m S1 Rs) (hv : ∀ a, VwL (S1 a) (Rs a) (ds a)) (hS : ∀ a d, S' (pk a d) = S1 a) (hR : ∀ a d, R (pk a d) = .ow none (.list d)) :
    EvE X w e S Ts (m.bind fun a => (op (ds a)).bind fun d => .ok (pk a d)) S' R := by
  intro C σ τ F H Q hK hτ E hq hx hb
  refine ⟨_, hpe canA, ?_⟩
  refine ha C σ τ F H _ hK hτ E (fun a ha us F1 H1 hl E1 => ?_) (fun x ex => hx x (exc_bind ex)) (fun eb => hb (bad_bind eb))
  rw [ok_bind ha] at hq hb
  have rs := E1.lasts hl (hv a)
  rw [hK] at rs
  cases eo : op (ds a) with
  | bad => rw [eo] at hb; exact absurd rfl hb
  | exc x => exact (hne eo).elim
  | ok d =>
    rw [eo] at hq
    refine hop E1.sub eo rs _ fun p xs hp hxs => hq (pk a d) rfl (.ref p) F1 _ ?_
    rw [hS, hR]
    exact (E1.pre (by simpa using hl)).pushOw hp ⟨xs, rfl, by rw [hK]; exact hxs⟩
/-! ### displays -/
theorem RnL.len {K : PySem.W.Frag} {F H : Hp} : ∀ {us : List V} {ds : List D}, RnL K F H us ds → us.length = ds.length
  | _, _, .nil => rfl
  | _, _, .cons _ t => by simp [RnL.len t]
/-- frozen values -/
theorem Env.vals {C : EC} {L : List Sl} {ρ : List (Option V)} {us : List V} {F H : Hp} {ds : List D} (h : us.length = ds.length) (E : Env C (L ++ ds.map Sl.v) (ρ ++ us.map some) F H) : RpL C.K F us ds := by
  induction ds generalizing L ρ us with
  | nil =>
    have : us = [] := List.length_eq_zero_iff.mp (by simpa using h)
    subst this; exact .nil
  | cons d ds ih =>
    cases us with
    | nil => simp at h
    | cons u us =>
      have E1 : Env C (L ++ [.v d] ++ ds.map Sl.v) (ρ ++ [some u] ++ us.map some) F H := by simpa using E
      refine .cons ?_ (ih (by simpa using h) E1)
      have E2 := E1.pre (by simpa using h)
      have hl : ρ.length = L.length := by have := E2.len; simpa using this
      obtain ⟨x, a, b⟩ := E2.va L.length d at_last
      rw [← hl, at_last] at a; cases a
      exact b
theorem ev_lst {es : List Expr} {pos : Pos} {Rs : α → List Sl} (S' : γ → List Sl) (R : γ → Sl) (pk : α → List D → γ) (ds : α → List D) (ha : EvA X w es S Ts m S1 Rs) (hz : ∀ a, (ds a).length ≤ sizeLine := by intros; exact Nat.le_of_ble_eq_true rfl) (hv : ∀ a, Rs a = (ds a).map Sl.v := by intros; rfl) (hS : ∀ a d, S' (pk a d) = S1 a := by intros; rfl) (hR : ∀ a d, R (pk a d) = .ow none (.list d) := by intros; rfl) :
    EvE X w (.List es pos) S Ts (m.bind fun a => .ok (pk a (ds a))) S' R := by
  intro C σ τ F H Q hK hτ E hq hx hb
  refine ⟨_, pe_lst canA, ?_⟩
  refine ha C σ τ F H _ hK hτ E (fun a ha us F1 H1 hl E1 => ?_) (fun x ex => hx x (exc_bind ex)) (fun eb => hb (bad_bind eb))
  rw [ok_bind ha] at hq hb
  rw [hv a] at E1 hl
  have hl' : us.length = (ds a).length := by simpa using hl
  refine ⟨by rw [hl']; exact hz a, fun p hp => hq (pk a (ds a)) rfl (.ref p) F1 _ ?_⟩
  rw [hS, hR]
  exact (E1.pre (by simpa using hl')).pushOw hp ⟨us, rfl, E1.vals hl'⟩
theorem ev_tup {es : List Expr} {pos : Pos} {c : Nat} {Rs : α → List Sl} (S' : γ → List Sl) (R : γ → Sl) (pk : α → List D → γ) (ds : α → List D) (ha : EvA X w es S Ts m S1 Rs) (hz : ∀ a, (ds a).length ≤ sizeLine := by intros; exact Nat.le_of_ble_eq_true rfl) (hv : ∀ a, Rs a = (ds a).map Sl.v := by intros; rfl) (hS : ∀ a d, S' (pk a d) = S1 a := by intros; rfl) (hR : ∀ a d, R (pk a d) = .v (.tup d) := by intros; rfl) :
    EvE X w (.Tuple es c pos) S Ts (m.bind fun a => .ok (pk a (ds a))) S' R := by
  intro C σ τ F H Q hK hτ E hq hx hb
  refine ⟨_, pe_tup canA, ?_⟩
  refine ha C σ τ F H _ hK hτ E (fun a ha us F1 H1 hl E1 => ?_) (fun x ex => hx x (exc_bind ex)) (fun eb => hb (bad_bind eb))
  rw [ok_bind ha] at hq hb
  rw [hv a] at E1 hl
  have hl' : us.length = (ds a).length := by simpa using hl
  refine ⟨by rw [hl']; exact hz a, fun p hp => hq (pk a (ds a)) rfl (.ref p) (upd F1 p (.tup us)) _ ?_⟩
  rw [hS, hR]
  exact (E1.pre (by simpa using hl')).pushTup hp (E1.vals hl')
/-- an owned answer, frozen -/
theorem ev_fz {e : Expr} (d : α → D) (h : EvE X w e S Ts m S1 R1) (hR : ∀ a, R1 a = .ow none (d a) := by intros; rfl) : EvE X w e S Ts m S1 (fun a => .v (d a)) := by
  intro C σ τ F H Q hK hτ E hq hx hb
  refine h C σ τ F H _ hK hτ E (fun a ha u F1 H1 E1 => ?_) hx hb
  rw [hR] at E1
  obtain ⟨F2, E2⟩ := E1.freeze (k := (S1 a ++ Ts).length) at_last
  refine hq a ha u F2 H1 ?_
  have e : (S1 a ++ Ts ++ [Sl.ow none (d a)]).set (S1 a ++ Ts).length (.v (d a)) = S1 a ++ Ts ++ [.v (d a)] := by simp
  rwa [e] at E2
/-- another telling of the same -/
theorem ev_to {e : Expr} {mm : Res α} {SS : α → List Sl} {RR : α → Sl} (h : EvE X w e S Ts m S1 R1) (hm : m = mm := by rfl) (hS : S1 = SS := by rfl) (hR : R1 = RR := by rfl) : EvE X w e S Ts mm SS RR := by subst hm hS hR; exact h
end
end G
namespace G
open PySem L2
/-! ## data as the library's data -/
mutual
def toP : D → PyData
  | .non => .none
  | .bl b => .bool b
  | .int i => .int i
  | .str s => .str s
  | .list xs => .list (toPL xs)
  | .tup xs => .tuple (toPL xs)
  | .dict es => .dict (toPK es)
  | .raw _ => .none
def toPL : List D → List PyData
  | [] => []
  | d :: ds => toP d :: toPL ds
def toPK : List (D × D) → List (PyData × PyData)
  | [] => []
  | (k, d) :: ds => (toP k, toP d) :: toPK ds
end
mutual
/-- no dict, nothing raw -/
def plain : D → Bool
  | .list xs => plainL xs
  | .tup xs => plainL xs
  | .dict _ => false
  | .raw _ => false
  | .non => true
  | .bl _ => true
  | .int _ => true
  | .str _ => true
def plainL : List D → Bool
  | [] => true
  | d :: ds => plain d && plainL ds
end
mutual
theorem Rp.dp {K : PySem.W.Frag} {H : Hp} : ∀ (d : D) (x : V), Rp K H x d → plain d = true → Dp K H x (toP d)
  | .non, _, h, _ => by cases h; exact .non
  | .bl _, _, h, _ => by cases h; exact .bl _
  | .int _, _, h, _ => by cases h; exact .int _
  | .str _, _, h, _ => by cases h; exact .str _
  | .raw _, _, _, h => by simp [plain] at h
  | .dict _, _, _, h => by simp [plain] at h
  | .list ds, _, h, hp => by
    cases h with
    | lst a b => exact .lst (.inl a) (RpL.dp ds _ b (by simpa [plain] using hp))
  | .tup ds, _, h, hp => by
    cases h with
    | tup a b => exact .tup a (RpL.dp ds _ b (by simpa [plain] using hp))
theorem RpL.dp {K : PySem.W.Frag} {H : Hp} : ∀ (ds : List D) (xs : List V), RpL K H xs ds → plainL ds = true → DpAll K H xs (toPL ds)
  | [], _, h, _ => by cases h; exact .nil
  | d :: ds, _, h, hp => by
    cases h with
    | cons a b =>
      have hp' : plain d = true ∧ plainL ds = true := by simpa [plainL] using hp
      exact .cons (Rp.dp d _ a hp'.1) (RpL.dp ds _ b hp'.2)
end
def sh (d : D) : Bool := plain d && SeqAt.shaped (toP d)
/-- == -/
def eqR : D → D → Res Bool
  | .int i, .int j => .ok (decide (i = j))
  | .str i, .str j => .ok (decide (i = j))
  | .bl i, .bl j => .ok (decide (i = j))
  | .non, .non => .ok true
  | .non, .int _ => .ok false
  | .int _, .non => .ok false
  | .non, .str _ => .ok false
  | .str _, .non => .ok false
  | .non, .bl _ => .ok false
  | .bl _, .non => .ok false
  | .int _, .str _ => .ok false
  | .str _, .int _ => .ok false
  | a, b => if sh a && sh b then .ok (PyData.eqv (toP a) (toP b)) else .bad
def flatD : D → Bool
  | .non => true
  | .bl _ => true
  | .int _ => true
  | .str _ => true
  | _ => false
/-- == of flat data -/
def eqF : D → D → Bool
  | .non, .non => true
  | .bl a, .bl b => a == b
  | .bl a, .int b => (if a then 1 else 0) == b
  | .int a, .bl b => a == (if b then 1 else 0)
  | .int a, .int b => a == b
  | .str a, .str b => a == b
  | _, _ => false
def inF (x : D) (ds : List D) : Bool := ds.any fun y => eqF y x
theorem flat_rp {K : PySem.W.Frag} {F : Hp} {x : V} {d : D} (h : Rp K F x d) (hf : flatD d = true) : flatV x = true ∧ ∀ y e, Rp K F y e → flatD e = true → eqV y x = eqF e d := by
  cases h <;> simp only [flatD, flatV] at hf ⊢ <;> (try cases hf)
  all_goals
    refine ⟨trivial, fun y e h2 h3 => ?_⟩
    cases h2 <;> simp only [flatD] at h3 <;> (try cases h3) <;> rfl
theorem inF_ok {K : PySem.W.Frag} {F : Hp} {x : V} {d : D} (h : Rp K F x d) (hf : flatD d = true) : ∀ {xs : List V} {ds : List D}, RpL K F xs ds → ds.all flatD = true → xs.all flatV = true ∧ inV x xs = inF d ds
  | _, _, .nil, _ => ⟨rfl, rfl⟩
  | _, _, @RpL.cons _ _ v vs e es a b, h2 => by
    have h2' : flatD e = true ∧ es.all flatD = true := by simpa using h2
    obtain ⟨h3, h4⟩ := inF_ok h hf b h2'.2
    have h5 := (flat_rp a h2'.1).1
    have h6 := (flat_rp h hf).2 v e a h2'.1
    refine ⟨by simp [h5, h3], ?_⟩
    show (eqV v x || inV x vs) = (eqF e d || inF d es)
    rw [h4, h6]
def inS (x : D) (ds : List D) : Bool := ds.any fun y => PyData.eqv (toP y) (toP x)
theorem toPL_any (f : PyData → Bool) : ∀ ds : List D, (toPL ds).any f = ds.any fun y => f (toP y)
  | [] => rfl
  | d :: ds => by simp [toPL, toPL_any f ds]
def strIn (x y : Str) : Bool := !(Builtin.Str.occurrences y x 0 y.length 1).isEmpty
/-- the comparisons -/
def opC : CmpOp → D → D → Res Bool
  | .Eq, a, b => eqR a b
  | .NotEq, a, b => (eqR a b).map (!·)
  | .Lt, .int a, .int b => .ok (decide (a < b))
  | .LtE, .int a, .int b => .ok (decide (a ≤ b))
  | .Gt, .int a, .int b => .ok (decide (b < a))
  | .GtE, .int a, .int b => .ok (decide (b ≤ a))
  | .Lt, .str a, .str b => .ok (decide (a.cps.toList < b.cps.toList))
  | .LtE, .str a, .str b => .ok (!decide (b.cps.toList < a.cps.toList))
  | .Gt, .str a, .str b => .ok (decide (b.cps.toList < a.cps.toList))
  | .GtE, .str a, .str b => .ok (!decide (a.cps.toList < b.cps.toList))
  | .In, .str ⟨⟨[c]⟩⟩, .str b => .ok (decide (c ∈ b.cps.toList))
  | .In, .str a, .str b => .ok (strIn a b)
  | .NotIn, .str ⟨⟨[c]⟩⟩, .str b => .ok (!decide (c ∈ b.cps.toList))
  | .NotIn, .str a, .str b => .ok (!strIn a b)
  | .In, a, .list b => if flatD a && b.all flatD then .ok (inF a b) else if sh a && sh (.list b) then .ok (inS a b) else .bad
  | .In, a, .tup b => if flatD a && b.all flatD then .ok (inF a b) else .bad
  | .NotIn, a, .list b => if flatD a && b.all flatD then .ok (!inF a b) else if sh a && sh (.list b) then .ok (!inS a b) else .bad
  | .NotIn, a, .tup b => if flatD a && b.all flatD then .ok (!inF a b) else .bad
  | .Is, .raw _, .non => .bad
  | .IsNot, .raw _, .non => .bad
  | .Is, .non, .non => .ok true
  | .Is, _, .non => .ok false
  | .IsNot, .non, .non => .ok false
  | .IsNot, _, .non => .ok true
  | _, _, _ => .bad
section
variable {X : Cx} {F H : Hp} {u v : V}
theorem scal_ok {d1 d2 : D} {b : Bool} (hu : X.A.units + 65 < cLine) (hs : Le F H) (h : eqR d1 d2 = .ok b) (r1 : Rn X.K F H u d1) (r2 : Rn X.K F H v d2) :
    (∀ Q : VK, Q (.bl b) H → rU X (compareOp .Eq) u v H Q) ∧ ∀ Q : VK, Q (.bl (!b)) H → rU X (compareOp .NotEq) u v H Q := by
  have sc : ∀ {x y : V}, u = x → v = y → scal x y = true → decide (x = y) = b → (∀ Q : VK, Q (.bl b) H → rU X (compareOp .Eq) u v H Q) ∧ ∀ Q : VK, Q (.bl (!b)) H → rU X (compareOp .NotEq) u v H Q := fun {x y} e1 e2 h1 h2 => by
    subst e1 e2 h2
    exact ⟨fun Q q => ⟨_, op_eq, h1, q⟩, fun Q q => ⟨_, op_ne, h1, q⟩⟩
  unfold eqR at h
  split at h
  · cases h; exact sc r1.int r2.int rfl (by simp)
  · cases h; exact sc r1.str r2.str rfl (by simp)
  · cases h; exact sc r1.bl r2.bl rfl (by simp)
  · cases h; exact sc r1.non r2.non rfl (by simp)
  · cases h; exact sc r1.non r2.int rfl (by simp)
  · cases h; exact sc r1.int r2.non rfl (by simp)
  · cases h; exact sc r1.non r2.str rfl (by simp)
  · cases h; exact sc r1.str r2.non rfl (by simp)
  · cases h; exact sc r1.non r2.bl rfl (by simp)
  · cases h; exact sc r1.bl r2.non rfl (by simp)
  · cases h; exact sc r1.int r2.str rfl (by simp)
  · cases h; exact sc r1.str r2.int rfl (by simp)
  · split at h
    · cases h
      rename_i hh
      have hh' := Bool.and_eq_true_iff.mp hh
      have p1 := Bool.and_eq_true_iff.mp hh'.1
      have p2 := Bool.and_eq_true_iff.mp hh'.2
      have q1 := Rp.dp _ _ (r1.rp hs) p1.1
      have q2 := Rp.dp _ _ (r2.rp hs) p2.1
      exact ⟨fun Q q => ⟨_, op_eqD (by omega), _, _, q1, q2, p1.2, p2.2, q⟩, fun Q q => ⟨_, op_neD (by omega), _, _, q1, q2, p1.2, p2.2, q⟩⟩
    · cases h
theorem Rn.flat {d : D} (h : Rn X.K F H u d) (hf : flatD d = true) : Rp X.K F u d := by
  rcases h with h | ⟨p, o, rfl, a, b⟩
  · exact h
  · cases d <;> simp [flatD, Top] at hf b
theorem in_ok {d : D} {ds : List D} {neg : Bool} (hs : Le F H) (hf : (flatD d && ds.all flatD) = true) (r1 : Rn X.K F H u d) (r2 : (∃ p xs, v = .ref p ∧ (SqL X.K H p xs ∨ SqT X.K H p xs) ∧ RpL X.K F xs ds)) :
    ∀ Q : VK, Q (.bl (if neg then !inF d ds else inF d ds)) H → rIn X.K neg u v H Q := fun Q q => by
  have hf' := Bool.and_eq_true_iff.mp hf
  obtain ⟨p, xs, rfl, a, b⟩ := r2
  obtain ⟨h1, h2⟩ := inF_ok (r1.flat hf'.1) hf'.1 b hf'.2
  exact ⟨p, xs, rfl, a, (flat_rp (r1.flat hf'.1) hf'.1).1, h1, by rw [h2]; exact q⟩
theorem opC_ok {op : CmpOp} {d1 d2 : D} {b : Bool} (hu : X.A.units + 65 < cLine) (hs : Le F H) (h : opC op d1 d2 = .ok b) (r1 : Rn X.K F H u d1) (r2 : Rn X.K F H v d2) : ∀ Q : VK, Q (.bl b) H → rU X (compareOp op) u v H Q := by
  intro Q q
  unfold opC at h
  split at h
  · exact (scal_ok hu hs h r1 r2).1 Q q
  · cases e : eqR d1 d2 with
    | bad => rw [e] at h; cases h
    | exc x => rw [e] at h; cases h
    | ok c => rw [e] at h; cases h; exact (scal_ok hu hs e r1 r2).2 Q q
  · cases h; cases r1.int; cases r2.int; exact ⟨_, op_lt, _, _, rfl, rfl, q⟩
  · cases h; cases r1.int; cases r2.int; exact ⟨_, op_le, _, _, rfl, rfl, q⟩
  · cases h; cases r1.int; cases r2.int; exact ⟨_, op_gt, _, _, rfl, rfl, q⟩
  · cases h; cases r1.int; cases r2.int; exact ⟨_, op_ge, _, _, rfl, rfl, q⟩
  · cases h; cases r1.str; cases r2.str; exact ⟨_, op_lt_str, _, _, rfl, rfl, q⟩
  · cases h; cases r1.str; cases r2.str; exact ⟨_, op_le_str, _, _, rfl, rfl, q⟩
  · cases h; cases r1.str; cases r2.str; exact ⟨_, op_gt_str, _, _, rfl, rfl, q⟩
  · cases h; cases r1.str; cases r2.str; exact ⟨_, op_ge_str, _, _, rfl, rfl, q⟩
  · cases h; cases r1.str; cases r2.str; exact ⟨_, op_in_sign, _, _, rfl, rfl, q⟩
  · cases h; cases r1.str; cases r2.str; exact ⟨_, op_in_str, _, _, rfl, rfl, q⟩
  · cases h; cases r1.str; cases r2.str; exact ⟨_, op_notIn_sign, _, _, rfl, rfl, q⟩
  · cases h; cases r1.str; cases r2.str; exact ⟨_, op_notin_str, _, _, rfl, rfl, q⟩
  · split at h
    · cases h
      obtain ⟨p, xs, a, b, c⟩ := r2.list hs
      exact ⟨_, op_in_seq, in_ok (neg := false) hs (by assumption) r1 ⟨p, xs, a, .inl (.inl b), c⟩ Q q⟩
    · split at h
      · cases h
        rename_i hz
        have hz' := Bool.and_eq_true_iff.mp hz
        obtain ⟨z1, z2⟩ := Bool.and_eq_true_iff.mp hz'.1
        obtain ⟨z3, z4⟩ := Bool.and_eq_true_iff.mp hz'.2
        exact ⟨_, op_inD hu, _, _, Rp.dp _ _ (r1.rp hs) z1, Rp.dp _ _ (r2.rp hs) z3, z2, z4, by rw [toPL_any]; exact q⟩
      · cases h
  · split at h
    · cases h
      obtain ⟨p, xs, a, b, c⟩ := r2.tup hs
      exact ⟨_, op_in_seq, in_ok (neg := false) hs (by assumption) r1 ⟨p, xs, a, .inr b, c⟩ Q q⟩
    · cases h
  · split at h
    · cases h
      obtain ⟨p, xs, a, b, c⟩ := r2.list hs
      exact ⟨_, op_notIn_seq, in_ok (neg := true) hs (by assumption) r1 ⟨p, xs, a, .inl (.inl b), c⟩ Q q⟩
    · split at h
      · cases h
        rename_i hz
        have hz' := Bool.and_eq_true_iff.mp hz
        obtain ⟨z1, z2⟩ := Bool.and_eq_true_iff.mp hz'.1
        obtain ⟨z3, z4⟩ := Bool.and_eq_true_iff.mp hz'.2
        exact ⟨_, op_notInD hu, _, _, Rp.dp _ _ (r1.rp hs) z1, Rp.dp _ _ (r2.rp hs) z3, z2, z4, by rw [toPL_any]; exact q⟩
      · cases h
  · split at h
    · cases h
      obtain ⟨p, xs, a, b, c⟩ := r2.tup hs
      exact ⟨_, op_notIn_seq, in_ok (neg := true) hs (by assumption) r1 ⟨p, xs, a, .inr b, c⟩ Q q⟩
    · cases h
  · cases h
  · cases h
  · cases h; cases r1.non; cases r2.non; exact ⟨_, op_isN, rfl, q⟩
  · cases h; cases r2.non
    refine ⟨_, op_isN, rfl, ?_⟩
    have : u ≠ .non := by
      rintro rfl
      rcases r1 with h | ⟨p, o, e, _⟩
      · cases h <;> simp_all
      · cases e
    rw [decide_eq_false this]; exact q
  · cases h; cases r1.non; cases r2.non; exact ⟨_, op_notN, rfl, q⟩
  · cases h; cases r2.non
    refine ⟨_, op_notN, rfl, ?_⟩
    have : u ≠ .non := by
      rintro rfl
      rcases r1 with h | ⟨p, o, e, _⟩
      · cases h <;> simp_all
      · cases e
    rw [decide_eq_false this]; exact q
  · cases h
theorem eqR_ne {a b : D} {x : Exn} (h : eqR a b = .exc x) : False := by
  unfold eqR at h
  split at h <;> (first | cases h | (split at h <;> cases h))
theorem opC_ne {op : CmpOp} {a b : D} {x : Exn} (h : opC op a b = .exc x) : False := by
  unfold opC at h
  split at h <;> (first | exact eqR_ne h | (cases h; done) | (split at h <;> cases h; done) | (split at h; (· cases h); (· split at h <;> cases h); done) | skip)
  cases e : eqR a b with
  | bad => rw [e] at h; cases h
  | ok x => rw [e] at h; cases h
  | exc x => exact eqR_ne e
end
end G
namespace G
open PySem L2
section
variable {α β γ δ : Type} {X : Cx} {w : Wx} {S Ts : List Sl} {e1 e2 e3 : Expr} {m1 : Res α} {S1 : α → List Sl} {R1 : α → Sl} {m2 : α → Res β} {S2 : α → β → List Sl} {R2 : α → β → Sl} {pos : Pos}
/-! ### comparisons -/
theorem ev_cmp {op : CmpOp} (S' : γ → List Sl) (R : γ → Sl) (pk : α → β → Bool → γ) (d1 d2 : α → β → D) (hu : X.A.units + 65 < cLine) (h1 : EvE X w e1 S Ts m1 S1 R1) (h2 : ∀ a, EvE X w e2 (S1 a) (Ts ++ [R1 a]) (m2 a) (S2 a) (R2 a))
    (hm : behindInMarks op e2 = false := by rfl)
    (v1 : ∀ a b, vw (S2 a b) (R1 a) = some (d1 a b) := by intros; rfl) (v2 : ∀ a b, vw (S2 a b) (R2 a b) = some (d2 a b) := by intros; rfl) (hS : ∀ a b d, S' (pk a b d) = S2 a b := by intros; rfl) (hR : ∀ a b d, R (pk a b d) = .v (.bl d) := by intros; rfl) :
    EvE X w (.Compare e1 [op] [e2] pos) S Ts (m1.bind fun a => (m2 a).bind fun b => (opC op (d1 a b) (d2 a b)).bind fun d => .ok (pk a b d)) S' R := by
  intro C σ τ F H Q hK hτ E hq hx hb
  refine ⟨_, pe_cmpR opU can can hm, ?_⟩
  refine ev2 _ h1 h2 hK hτ E _ (fun a b ha hb2 u v F' H' E' => ?_) hx hb
  rw [ok_bind ha, ok_bind hb2] at hq hx hb
  have r1 := E'.last2 (v1 a b)
  have r2 := Env.last (T := Ts ++ [R1 a]) (ρ := σ ++ τ ++ [some u]) (by rw [← List.append_assoc]; exact E') (v2 a b)
  rw [hK] at r1 r2
  cases eo : opC op (d1 a b) (d2 a b) with
  | bad => rw [eo] at hb; exact absurd rfl hb
  | exc x => exact (opC_ne eo).elim
  | ok d =>
    rw [eo] at hq
    refine opC_ok hu E'.sub eo r1 r2 _ (hq (pk a b d) rfl (.bl d) F' H' ?_)
    rw [hS, hR]
    exact E'.pop.pop.pushV (.bl d)
theorem et_cmp {op : CmpOp} (S' : γ → List Sl) (bb : γ → Bool) (pk : α → β → Bool → γ) (d1 d2 : α → β → D) (hu : X.A.units + 65 < cLine) (h1 : EvE X w e1 S Ts m1 S1 R1) (h2 : ∀ a, EvE X w e2 (S1 a) (Ts ++ [R1 a]) (m2 a) (S2 a) (R2 a))
    (hm : behindInMarks op e2 = false := by rfl)
    (v1 : ∀ a b, vw (S2 a b) (R1 a) = some (d1 a b) := by intros; rfl) (v2 : ∀ a b, vw (S2 a b) (R2 a b) = some (d2 a b) := by intros; rfl) (hS : ∀ a b d, S' (pk a b d) = S2 a b := by intros; rfl) (hR : ∀ a b d, bb (pk a b d) = d := by intros; rfl) :
    EvT X w (.Compare e1 [op] [e2] pos) S Ts (m1.bind fun a => (m2 a).bind fun b => (opC op (d1 a b) (d2 a b)).bind fun d => .ok (pk a b d)) S' bb := by
  intro C σ τ F H Q hK hτ E hq hx hb
  refine ⟨_, pt_cmpR opU can can hm, ?_⟩
  refine ev2 _ h1 h2 hK hτ E _ (fun a b ha hb2 u v F' H' E' => ?_) hx hb
  rw [ok_bind ha, ok_bind hb2] at hq hx hb
  have r1 := E'.last2 (v1 a b)
  have r2 := Env.last (T := Ts ++ [R1 a]) (ρ := σ ++ τ ++ [some u]) (by rw [← List.append_assoc]; exact E') (v2 a b)
  rw [hK] at r1 r2
  cases eo : opC op (d1 a b) (d2 a b) with
  | bad => rw [eo] at hb; exact absurd rfl hb
  | exc x => exact (opC_ne eo).elim
  | ok d =>
    rw [eo] at hq
    refine opC_ok hu E'.sub eo r1 r2 _ ⟨d, rfl, ?_⟩
    have := hq (pk a b d) rfl F' H' (by rw [hS]; exact E'.pop.pop)
    rwa [hR] at this
/-- a op b op' c: values only, nothing changes -/
theorem et_chain {op op' : CmpOp} {m1 : Res α} {m2 : Res β} {m3 : Res γ} {R1 : α → Sl} {R2 : β → Sl} {R3 : γ → Sl} (d1 : α → D) (d2 : β → D) (d3 : γ → D) (hu : X.A.units + 65 < cLine)
    (h1 : EvE X w e1 S Ts m1 (fun _ => S) R1) (h2 : ∀ a, EvE X w e2 S (Ts ++ [R1 a]) m2 (fun _ => S) R2) (h3 : ∀ a b, EvE X w e3 S (Ts ++ [R1 a] ++ [R2 b]) m3 (fun _ => S) R3)
    (hm : lastMarks [op, op'] [e2, e3] = false := by with_unfolding_all rfl)
    (v1 : ∀ a, vw S (R1 a) = some (d1 a) := by intros; rfl) (v2 : ∀ a, vw S (R2 a) = some (d2 a) := by intros; rfl) (v3 : ∀ a, vw S (R3 a) = some (d3 a) := by intros; rfl) :
    EvT X w (.Compare e1 [op, op'] [e2, e3] pos) S Ts (m1.bind fun a => m2.bind fun b => (opC op (d1 a) (d2 b)).bind fun k => if k then m3.bind fun c => opC op' (d2 b) (d3 c) else .ok false) (fun _ => S) id := by
  intro C σ τ F H Q hK hτ E hq hx hb
  refine ⟨_, pt_chain opU opU can can can hm, ?_⟩
  refine ev2 _ h1 h2 hK hτ E _ (fun a b ha hb2 u v F' H' E' => ?_) hx hb
  rw [ok_bind ha, ok_bind hb2] at hq hx hb
  have r1 := E'.last2 (v1 a)
  have r2 := Env.last (T := Ts ++ [R1 a]) (ρ := σ ++ τ ++ [some u]) (by rw [← List.append_assoc]; exact E') (v2 b)
  have r1' := r1
  have r2' := r2
  rw [hK] at r1 r2
  cases eo : opC op (d1 a) (d2 b) with
  | bad => rw [eo] at hb; exact absurd rfl hb
  | exc x => exact (opC_ne eo).elim
  | ok k =>
    rw [eo] at hq hx hb
    refine opC_ok hu E'.sub eo r1 r2 _ ⟨k, rfl, ?_⟩
    cases k with
    | false => exact ⟨false, rfl, hq false rfl F' H' E'.pop.pop⟩
    | true =>
      show Can X e3 σ H' _
      have e0 : (Res.ok true).bind (fun k => if k then m3.bind fun c => opC op' (d2 b) (d3 c) else .ok false) = m3.bind fun c => opC op' (d2 b) (d3 c) := rfl
      rw [e0] at hq hx hb
      refine h3 a b C σ (τ ++ [some u] ++ [some v]) F' H' _ hK (by simp [hτ]) (by simpa only [List.append_assoc] using E') (fun c hc x F2 H2 E2 => ?_) (fun x ex => hx x (exc_bind ex)) (fun eb => hb (bad_bind eb))
      have E2' : Env C (S ++ (Ts ++ [R1 a] ++ [R2 b]) ++ [R3 c]) (σ ++ (τ ++ [some u] ++ [some v]) ++ [some x]) F2 H2 := by simpa only [List.append_assoc] using E2
      have q2 : Rn C.K F2 H2 v (d2 b) := by
        have E3 := E2'.pop
        exact Env.last (T := Ts ++ [R1 a]) (ρ := σ ++ (τ ++ [some u])) (by simpa only [List.append_assoc] using E3) (v2 b)
      have q3 := Env.last E2' (v3 c)
      rw [hK] at q2 q3
      rw [ok_bind hc] at hq hb
      cases eo2 : opC op' (d2 b) (d3 c) with
      | bad => rw [eo2] at hb; exact absurd rfl hb
      | exc x => exact (opC_ne eo2).elim
      | ok k2 =>
        rw [eo2] at hq
        refine opC_ok hu E2'.sub eo2 q2 q3 _ ⟨k2, rfl, hq k2 rfl F2 H2 ?_⟩
        have E4 : Env C ((S ++ Ts) ++ ([R1 a] ++ [R2 b] ++ [R3 c])) ((σ ++ τ) ++ ([some u] ++ [some v] ++ [some x])) F2 H2 := by simpa only [List.append_assoc] using E2
        exact E4.pre (by simp)
/-! ### truth -/
def truthD : D → Res Bool
  | .non => .ok false
  | .bl b => .ok b
  | .int i => .ok (i != 0)
  | .str s => if s.length ≤ sizeLine then .ok ((s.length : Int) != 0) else .bad
  | .list xs => .ok (!xs.isEmpty)
  | .tup xs => .ok (!xs.isEmpty)
  | _ => .bad
theorem RpL.emp {K : PySem.W.Frag} {F : Hp} {xs : List V} {ds : List D} (h : RpL K F xs ds) : xs.isEmpty = ds.isEmpty := by cases h <;> rfl
theorem truth_ok {F H : Hp} {u : V} {d : D} {b : Bool} (hs : Le F H) (h : truthD d = .ok b) (r : Rn X.K F H u d) : TruV X.K u H b := by
  unfold truthD at h
  split at h
  · cases h; cases r.non; rfl
  · cases h; cases r.bl; rfl
  · cases h; cases r.int; rfl
  · split at h
    · cases h; cases r.str; exact ⟨by assumption, rfl⟩
    · cases h
  · cases h
    obtain ⟨p, xs, rfl, a, c⟩ := r.list hs
    exact .inl ⟨xs, .inl a, by rw [c.emp]⟩
  · cases h
    obtain ⟨p, xs, rfl, a, c⟩ := r.tup hs
    exact .inr (.inl ⟨xs, a, by rw [c.emp]⟩)
  · cases h
theorem truth_ne {d : D} {x : Exn} (h : truthD d = .exc x) : False := by
  unfold truthD at h
  split at h <;> (first | cases h | (split at h <;> cases h))
/-- a value as a test -/
theorem et_val (S' : γ → List Sl) (bb : γ → Bool) (pk : α → Bool → γ) (d1 : α → D) (h1 : EvE X w e1 S Ts m1 S1 R1) (he : ∀ whole, isTrue e1 X.env whole = (do let v ← whole; standAt e1.pos; holding [v] (truthy v)) := by intro _; rfl)
    (v1 : ∀ a, vw (S1 a) (R1 a) = some (d1 a) := by intros; rfl) (hS : ∀ a d, S' (pk a d) = S1 a := by intros; rfl) (hR : ∀ a d, bb (pk a d) = d := by intros; rfl) :
    EvT X w e1 S Ts (m1.bind fun a => (truthD (d1 a)).bind fun d => .ok (pk a d)) S' bb := by
  intro C σ τ F H Q hK hτ E hq hx hb
  refine ⟨_, pt_truth can he, ?_⟩
  refine h1 C σ τ F H _ hK hτ E (fun a ha u F1 H1 E1 => ?_) (fun x ex => hx x (exc_bind ex)) (fun eb => hb (bad_bind eb))
  rw [ok_bind ha] at hq hb
  have r := E1.last (v1 a)
  rw [hK] at r
  cases eo : truthD (d1 a) with
  | bad => rw [eo] at hb; exact absurd rfl hb
  | exc x => exact (truth_ne eo).elim
  | ok d =>
    rw [eo] at hq
    refine ⟨d, truth_ok E1.sub eo r, ?_⟩
    have := hq (pk a d) rfl F1 H1 (by rw [hS]; exact E1.pop)
    rwa [hR] at this
theorem et_not {b1 : α → Bool} (h1 : EvT X w e1 S Ts m1 S1 b1) : EvT X w (.UnaryOp .Not e1 pos) S Ts m1 S1 (fun a => !b1 a) := by
  intro C σ τ F H Q hK hτ E hq hx hb
  refine ⟨_, pt_not canT, ?_⟩
  exact h1 C σ τ F H _ hK hτ E (fun a ha F1 H1 E1 => hq a ha F1 H1 E1) hx hb
/-- and, or: their members one by one -/
def CanW (X : Cx) (e : Expr) : TT := fun σ H Q => ∃ t, PW X e t ∧ t σ H Q
theorem canW {X : Cx} {e : Expr} : PW X e (CanW X e) := ⟨fun whole pins s σ H Q I ⟨_, h, q⟩ => h.run whole pins s σ H Q I q⟩
def EvW (X : Cx) (w : Wx) (e : Expr) (S Ts : List Sl) (m : Res α) (S' : α → List Sl) (b : α → Bool) : Prop :=
  ∀ (C : EC) (σ : St) (τ : List (Option V)) (F H : Hp) (Q : Bool → Hp → Prop), C.K = X.K → τ.length = Ts.length → Env C (S ++ Ts) (σ ++ τ) F H →
    (∀ a, m = .ok a → ∀ F' H', Env C (S' a ++ Ts) (σ ++ τ) F' H' → Q (b a) H') → (∀ x, m = .exc x → ExH X w C σ x) → m ≠ .bad → CanW X e σ H Q
theorem ew_and1 {b1 : α → Bool} (h1 : EvT X w e1 S Ts m1 S1 b1) : EvW X w (.BoolOp .And [e1] pos) S Ts m1 S1 b1 := by
  intro C σ τ F H Q hK hτ E hq hx hb
  exact ⟨_, pw_and1 canT, h1 C σ τ F H _ hK hτ E hq hx hb⟩
theorem ew_or1 {b1 : α → Bool} (h1 : EvT X w e1 S Ts m1 S1 b1) : EvW X w (.BoolOp .Or [e1] pos) S Ts m1 S1 b1 := by
  intro C σ τ F H Q hK hτ E hq hx hb
  exact ⟨_, pw_or1 canT, h1 C σ τ F H _ hK hτ E hq hx hb⟩
variable {rest : List Expr} {b1 : α → Bool} {b2 : α → β → Bool}
theorem ew_and (S' : γ → List Sl) (bb : γ → Bool) (pt : α → β → γ) (pf : α → γ) (h1 : EvT X w e1 S Ts m1 S1 b1) (h2 : ∀ a, EvW X w (.BoolOp .And (e2 :: rest) pos) (S1 a) Ts (m2 a) (S2 a) (b2 a))
    (hS : ∀ a b, S' (pt a b) = S2 a b := by intros; rfl) (hb : ∀ a b, bb (pt a b) = b2 a b := by intros; rfl) (hS' : ∀ a, S' (pf a) = S1 a := by intros; rfl) (hb' : ∀ a, bb (pf a) = false := by intros; rfl) :
    EvW X w (.BoolOp .And (e1 :: e2 :: rest) pos) S Ts (m1.bind fun a => if b1 a then (m2 a).bind fun b => .ok (pt a b) else .ok (pf a)) S' bb := by
  intro C σ τ F H Q hK hτ E hq hx hbad
  refine ⟨_, pw_and canT canW, ?_⟩
  refine h1 C σ τ F H _ hK hτ E (fun a ha F1 H1 E1 => ?_) (fun x ex => hx x (exc_bind ex)) (fun eb => hbad (bad_bind eb))
  rw [ok_bind ha] at hq hx hbad
  cases eb1 : b1 a with
  | true =>
    rw [eb1] at hq hx hbad
    show CanW X _ σ H1 Q
    refine h2 a C σ τ F1 H1 _ hK hτ E1 (fun b hb2 F2 H2 E2 => ?_) (fun x ex => hx x (exc_bind ex)) (fun eb => hbad (bad_bind eb))
    have := hq (pt a b) (ok_bind hb2) F2 H2 (by rw [hS]; exact E2)
    rwa [hb] at this
  | false =>
    rw [eb1] at hq
    show Q false H1
    have := hq (pf a) rfl F1 H1 (by rw [hS']; exact E1)
    rwa [hb'] at this
theorem ew_or (S' : γ → List Sl) (bb : γ → Bool) (pt : α → γ) (pf : α → β → γ) (h1 : EvT X w e1 S Ts m1 S1 b1) (h2 : ∀ a, EvW X w (.BoolOp .Or (e2 :: rest) pos) (S1 a) Ts (m2 a) (S2 a) (b2 a))
    (hS : ∀ a b, S' (pf a b) = S2 a b := by intros; rfl) (hb : ∀ a b, bb (pf a b) = b2 a b := by intros; rfl) (hS' : ∀ a, S' (pt a) = S1 a := by intros; rfl) (hb' : ∀ a, bb (pt a) = true := by intros; rfl) :
    EvW X w (.BoolOp .Or (e1 :: e2 :: rest) pos) S Ts (m1.bind fun a => if b1 a then .ok (pt a) else (m2 a).bind fun b => .ok (pf a b)) S' bb := by
  intro C σ τ F H Q hK hτ E hq hx hbad
  refine ⟨_, pw_or canT canW, ?_⟩
  refine h1 C σ τ F H _ hK hτ E (fun a ha F1 H1 E1 => ?_) (fun x ex => hx x (exc_bind ex)) (fun eb => hbad (bad_bind eb))
  rw [ok_bind ha] at hq hx hbad
  cases eb1 : b1 a with
  | false =>
    rw [eb1] at hq hx hbad
    show CanW X _ σ H1 Q
    refine h2 a C σ τ F1 H1 _ hK hτ E1 (fun b hb2 F2 H2 E2 => ?_) (fun x ex => hx x (exc_bind ex)) (fun eb => hbad (bad_bind eb))
    have := hq (pf a b) (ok_bind hb2) F2 H2 (by rw [hS]; exact E2)
    rwa [hb] at this
  | true =>
    rw [eb1] at hq
    show Q true H1
    have := hq (pt a) rfl F1 H1 (by rw [hS']; exact E1)
    rwa [hb'] at this
theorem et_w {b1 : α → Bool} (h : EvW X w e1 S Ts m1 S1 b1) : EvT X w e1 S Ts m1 S1 b1 := by
  intro C σ τ F H Q hK hτ E hq hx hb
  obtain ⟨t, h1, h2⟩ := h C σ τ F H Q hK hτ E hq hx hb
  exact ⟨t, h1.pt, h2⟩
/-- a if t else b -/
theorem ev_if {m3 : α → Res γ} {S3 : α → γ → List Sl} {R3 : α → γ → Sl} (S' : δ → List Sl) (R : δ → Sl) (pt : α → β → δ) (pf : α → γ → δ) (h1 : EvT X w e1 S Ts m1 S1 b1) (h2 : ∀ a, EvE X w e2 (S1 a) Ts (m2 a) (S2 a) (R2 a)) (h3 : ∀ a, EvE X w e3 (S1 a) Ts (m3 a) (S3 a) (R3 a))
    (hS2 : ∀ a b, S' (pt a b) = S2 a b := by intros; rfl) (hR2 : ∀ a b, R (pt a b) = R2 a b := by intros; rfl) (hS3 : ∀ a b, S' (pf a b) = S3 a b := by intros; rfl) (hR3 : ∀ a b, R (pf a b) = R3 a b := by intros; rfl) :
    EvE X w (.IfExp e1 e2 e3 pos) S Ts (m1.bind fun a => if b1 a then (m2 a).bind fun b => .ok (pt a b) else (m3 a).bind fun b => .ok (pf a b)) S' R := by
  intro C σ τ F H Q hK hτ E hq hx hbad
  refine ⟨_, pe_ifExp canT can can, ?_⟩
  refine h1 C σ τ F H _ hK hτ E (fun a ha F1 H1 E1 => ?_) (fun x ex => hx x (exc_bind ex)) (fun eb => hbad (bad_bind eb))
  rw [ok_bind ha] at hq hx hbad
  cases eb1 : b1 a with
  | true =>
    rw [eb1] at hq hx hbad
    show Can X _ σ H1 Q
    refine h2 a C σ τ F1 H1 _ hK hτ E1 (fun b hb2 u F2 H2 E2 => ?_) (fun x ex => hx x (exc_bind ex)) (fun eb => hbad (bad_bind eb))
    exact hq (pt a b) (ok_bind hb2) u F2 H2 (by rw [hS2, hR2]; exact E2)
  | false =>
    rw [eb1] at hq hx hbad
    show Can X _ σ H1 Q
    refine h3 a C σ τ F1 H1 _ hK hτ E1 (fun b hb2 u F2 H2 E2 => ?_) (fun x ex => hx x (exc_bind ex)) (fun eb => hbad (bad_bind eb))
    exact hq (pf a b) (ok_bind hb2) u F2 H2 (by rw [hS3, hR3]; exact E2)
end
end G
namespace G
open PySem L2
section
variable {α β γ δ : Type} {X : Cx} {w : Wx} {S Ts : List Sl} {e1 e2 e3 : Expr} {m1 : Res α} {S1 : α → List Sl} {R1 : α → Sl} {m2 : α → Res β} {S2 : α → β → List Sl} {R2 : α → β → Sl} {pos p2 : Pos}
/-! ### places -/
def ofO {α : Type} : Option α → Res α
  | some a => .ok a
  | none => .bad
theorem atI_map {K : PySem.W.Frag} {F : Hp} {xs : List V} {ds : List D} {i : Int} {d : D} (h : RpL K F xs ds) (e : atI ds i = some d) : ∃ x, atI xs i = some x ∧ Rp K F x d := by
  unfold atI at *
  rw [h.len]
  cases hj : ixN ds.length i with
  | none => rw [hj] at e; cases e
  | some j => rw [hj] at e; exact h.get e
/-- a[i]: lists, tuples, texts -/
def opIx : D → D → Res D
  | .list ds, .int i => ofO (atI ds i)
  | .tup ds, .int i => ofO (atI ds i)
  | .str z, .int i => if z.length ≤ sizeLine then ofO ((atI z.cps.toList i).map fun c => D.str ⟨#[c]⟩) else .bad
  | _, _ => .bad
theorem ofO_ok {α : Type} {o : Option α} {a : α} (h : ofO o = .ok a) : o = some a := by cases o <;> cases h; rfl
def rX (X : Cx) : L2.R2 := fun x y H Q => ∃ r, IxR X r ∧ r x y H Q
theorem ixU : IxR X (rX X) := fun value slice pins s σ H x y v u Q I rx ry ⟨_, h, q⟩ hs => h value slice pins s σ H x y v u Q I rx ry q hs
theorem opIx_ok {d1 d2 d : D} {F H : Hp} {u v : V} (hs : Le F H) (h : opIx d1 d2 = .ok d) (r1 : Rn X.K F H u d1) (r2 : Rn X.K F H v d2) : ∃ z, Rp X.K F z d ∧ ∀ Q : VK, Q z H → rX X u v H Q := by
  unfold opIx at h
  split at h
  · cases r2.int
    obtain ⟨p, xs, rfl, a, b⟩ := r1.list hs
    obtain ⟨x, e, rx⟩ := atI_map b (ofO_ok h)
    exact ⟨x, rx, fun Q q => ⟨_, ix_list, p, xs, _, x, rfl, rfl, .inl a, e, q⟩⟩
  · cases r2.int
    obtain ⟨p, xs, rfl, a, b⟩ := r1.tup hs
    obtain ⟨x, e, rx⟩ := atI_map b (ofO_ok h)
    exact ⟨x, rx, fun Q q => ⟨_, ix_tup, p, xs, _, x, rfl, rfl, a, e, q⟩⟩
  · split at h
    · cases r2.int; cases r1.str
      have h' := ofO_ok h
      obtain ⟨c, hc, rfl⟩ := Option.map_eq_some_iff.mp h'
      exact ⟨_, .str _, fun Q q => ⟨_, ix_str, _, _, c, rfl, rfl, by assumption, hc, q⟩⟩
    · cases h
  · cases h
theorem opIx_ne {d1 d2 : D} {x : Exn} (h : opIx d1 d2 = .exc x) : False := by
  have : ∀ {α : Type} {o : Option α} {x : Exn}, ofO o = .exc x → False := fun {α o x} h => by cases o <;> cases h
  unfold opIx at h
  split at h
  · exact this h
  · exact this h
  · split at h
    · exact this h
    · cases h
  · cases h
theorem ev_ix (S' : γ → List Sl) (R : γ → Sl) (pk : α → β → D → γ) (d1 d2 : α → β → D) (h1 : EvE X w e1 S Ts m1 S1 R1) (h2 : ∀ a, EvE X w e2 (S1 a) (Ts ++ [R1 a]) (m2 a) (S2 a) (R2 a)) (hp : PlainIx e2 := by intro _ _; rfl)
    (v1 : ∀ a b, vw (S2 a b) (R1 a) = some (d1 a b) := by intros; rfl) (v2 : ∀ a b, vw (S2 a b) (R2 a b) = some (d2 a b) := by intros; rfl) (hS : ∀ a b d, S' (pk a b d) = S2 a b := by intros; rfl) (hR : ∀ a b d, R (pk a b d) = .v d := by intros; rfl) :
    EvE X w (.Subscript e1 e2 pos) S Ts (m1.bind fun a => (m2 a).bind fun b => (opIx (d1 a b) (d2 a b)).bind fun d => .ok (pk a b d)) S' R := by
  intro C σ τ F H Q hK hτ E hq hx hb
  refine ⟨_, pe_ix ixU can can hp, ?_⟩
  refine ev2 _ h1 h2 hK hτ E _ (fun a b ha hb2 u v F' H' E' => ?_) hx hb
  rw [ok_bind ha, ok_bind hb2] at hq hx hb
  have r1 := E'.last2 (v1 a b)
  have r2 := Env.last (T := Ts ++ [R1 a]) (ρ := σ ++ τ ++ [some u]) (by rw [← List.append_assoc]; exact E') (v2 a b)
  rw [hK] at r1 r2
  cases eo : opIx (d1 a b) (d2 a b) with
  | bad => rw [eo] at hb; exact absurd rfl hb
  | exc x => exact (opIx_ne eo).elim
  | ok d =>
    rw [eo] at hq
    obtain ⟨z, rz, k⟩ := opIx_ok E'.sub eo r1 r2
    refine k _ (hq (pk a b d) rfl z F' H' ?_)
    rw [hS, hR]
    exact E'.pop.pop.pushV (by rw [hK]; exact rz)
/-- the script's items -/
theorem ev_ixS (S' : γ → List Sl) (R : γ → Sl) (pk : α → β → D → γ) (d1 : α → β → List D) (d2 : α → β → D) (h1 : EvE X w e1 S Ts m1 S1 R1) (h2 : ∀ a, EvE X w e2 (S1 a) (Ts ++ [R1 a]) (m2 a) (S2 a) (R2 a)) (hp : PlainIx e2 := by intro _ _; rfl)
    (v1 : ∀ a b, vs (S2 a b) (R1 a) = some (d1 a b) := by intros; rfl) (v2 : ∀ a b, vw (S2 a b) (R2 a b) = some (d2 a b) := by intros; rfl) (hS : ∀ a b d, S' (pk a b d) = S2 a b := by intros; rfl) (hR : ∀ a b d, R (pk a b d) = .v d := by intros; rfl) :
    EvE X w (.Subscript e1 e2 pos) S Ts (m1.bind fun a => (m2 a).bind fun b => (opIx (.list (d1 a b)) (d2 a b)).bind fun d => .ok (pk a b d)) S' R := by
  intro C σ τ F H Q hK hτ E hq hx hb
  refine ⟨_, pe_ix ixU can can hp, ?_⟩
  refine ev2 _ h1 h2 hK hτ E _ (fun a b ha hb2 u v F' H' E' => ?_) hx hb
  rw [ok_bind ha, ok_bind hb2] at hq hx hb
  obtain ⟨p, xs, rfl, ra, rb⟩ := Env.lastS E'.pop (v1 a b)
  have r2 := Env.last (T := Ts ++ [R1 a]) (ρ := σ ++ τ ++ [some (.ref p)]) (by rw [← List.append_assoc]; exact E') (v2 a b)
  rw [hK] at r2 ra rb
  cases eo : opIx (.list (d1 a b)) (d2 a b) with
  | bad => rw [eo] at hb; exact absurd rfl hb
  | exc x => exact (opIx_ne eo).elim
  | ok d =>
    rw [eo] at hq
    obtain ⟨z, rz, k⟩ : ∃ z, Rp X.K F' z d ∧ ∀ Q : VK, Q z H' → rX X (.ref p) v H' Q := by
      generalize d2 a b = dd at eo r2
      cases dd <;> simp only [opIx] at eo <;> try (cases eo; done)
      cases r2.int
      obtain ⟨x, e, rx⟩ := atI_map rb (ofO_ok eo)
      exact ⟨x, rx, fun Q q => ⟨_, ix_list, p, xs, _, x, rfl, rfl, ra, e, q⟩⟩
    refine k _ (hq (pk a b d) rfl z F' H' ?_)
    rw [hS, hR]
    exact E'.pop.pop.pushV (by rw [hK]; exact rz)
/-! ### slices -/
theorem RpL.cut {K : PySem.W.Frag} {F : Hp} {xs : List V} {ds : List D} (h : RpL K F xs ds) (lo hi : Option Int) : RpL K F (cutV xs lo hi) ((ds.drop (HT.sIx ds.length 0 lo)).take (HT.sIx ds.length ds.length hi - HT.sIx ds.length 0 lo)) := by
  unfold cutV
  rw [h.len]
  exact (h.drop _).take _
def cutD (ds : List D) (lo hi : Option Int) : List D := (ds.drop (HT.sIx ds.length 0 lo)).take (HT.sIx ds.length ds.length hi - HT.sIx ds.length 0 lo)
/-- a part of a slice -/
def EvO (X : Cx) (w : Wx) (e : Option Expr) (S Ts : List Sl) (m : Res α) (S' : α → List Sl) (o : α → Option Int) (Us : α → List Sl) : Prop :=
  ∀ (C : EC) (σ : St) (τ : List (Option V)) (F H : Hp) (Q : Option Int → Hp → Prop), C.K = X.K → τ.length = Ts.length → Env C (S ++ Ts) (σ ++ τ) F H →
    (∀ a, m = .ok a → ∀ F' H', Env C (S' a ++ Ts) (σ ++ τ) F' H' → Q (o a) H') → (∀ x, m = .exc x → ExH X w C σ x) → m ≠ .bad → ∃ t, PO X e t ∧ t σ H Q
def intD : D → Res Int
  | .int i => .ok i
  | _ => .bad
theorem eo_none : EvO X w none S Ts (.ok ()) (fun _ => S) (fun _ => none) (fun _ => []) := by
  intro C σ τ F H Q hK hτ E hq _ _
  exact ⟨_, po_none, hq () rfl F H E⟩
theorem eo_some (S' : γ → List Sl) (o : γ → Option Int) (pk : α → Int → γ) (d1 : α → D) (h1 : EvE X w e1 S Ts m1 S1 R1) (v1 : ∀ a, vw (S1 a) (R1 a) = some (d1 a) := by intros; rfl)
    (hS : ∀ a d, S' (pk a d) = S1 a := by intros; rfl) (hR : ∀ a d, o (pk a d) = some d := by intros; rfl) : EvO X w (some e1) S Ts (m1.bind fun a => (intD (d1 a)).bind fun i => .ok (pk a i)) S' o (fun _ => []) := by
  intro C σ τ F H Q hK hτ E hq hx hb
  refine ⟨_, po_some can, ?_⟩
  refine h1 C σ τ F H _ hK hτ E (fun a ha u F1 H1 E1 => ?_) (fun x ex => hx x (exc_bind ex)) (fun eb => hb (bad_bind eb))
  rw [ok_bind ha] at hq hb
  have r := E1.last (v1 a)
  generalize d1 a = dd at r hq hb
  cases dd <;> simp only [intD] at hq hb <;> try (exact absurd rfl hb)
  cases r.int
  refine ⟨_, rfl, ?_⟩
  have := hq (pk a _) rfl F1 H1 (by rw [hS]; exact E1.pop)
  rwa [hR] at this
def CanO (X : Cx) (e : Option Expr) : TO := fun σ H Q => ∃ t, PO X e t ∧ t σ H Q
theorem canO {e : Option Expr} : PO X e (CanO X e) := ⟨fun pins s σ H Q I ⟨_, h, q⟩ => h.run pins s σ H Q I q⟩
/-- a slice of a list: a new list -/
theorem ev_slL {lo hi : Option Expr} {m3 : α → β → Res γ} {S3 : α → β → γ → List Sl} {o2 : α → β → Option Int} {o3 : α → β → γ → Option Int} {U2 : α → β → List Sl} {U3 : α → β → γ → List Sl} (S' : δ → List Sl) (R : δ → Sl) (pk : α → β → γ → List D → δ) (ds : α → β → γ → List D)
    (h1 : EvE X w e1 S Ts m1 S1 R1) (h2 : ∀ a, EvO X w lo (S1 a) (Ts ++ [R1 a]) (m2 a) (S2 a) (o2 a) (U2 a)) (h3 : ∀ a b, EvO X w hi (S2 a b) (Ts ++ [R1 a]) (m3 a b) (S3 a b) (o3 a b) (U3 a b))
    (v1 : ∀ a b c, vw (S3 a b c) (R1 a) = some (.list (ds a b c)) := by intros; rfl) (hS : ∀ a b c d, S' (pk a b c d) = S3 a b c := by intros; rfl) (hR : ∀ a b c d, R (pk a b c d) = .ow none (.list d) := by intros; rfl) :
    EvE X w (.Subscript e1 (.Slice lo hi none p2) pos) S Ts (m1.bind fun a => (m2 a).bind fun b => (m3 a b).bind fun c => .ok (pk a b c (cutD (ds a b c) (o2 a b) (o3 a b c)))) S' R := by
  intro C σ τ F H Q hK hτ E hq hx hb
  refine ⟨_, pe_slice sl_list can canO canO, ?_⟩
  refine h1 C σ τ F H _ hK hτ E (fun a ha u F1 H1 E1 => ?_) (fun x ex => hx x (exc_bind ex)) (fun eb => hb (bad_bind eb))
  rw [ok_bind ha] at hq hx hb
  refine h2 a C σ (τ ++ [some u]) F1 H1 _ hK (by simp [hτ]) (by simpa only [List.append_assoc] using E1) (fun b hb2 F2 H2 E2 => ?_) (fun x ex => hx x (exc_bind ex)) (fun eb => hb (bad_bind eb))
  rw [ok_bind hb2] at hq hx hb
  refine h3 a b C σ (τ ++ [some u]) F2 H2 _ hK (by simp [hτ]) E2 (fun c hc F3 H3 E3 => ?_) (fun x ex => hx x (exc_bind ex)) (fun eb => hb (bad_bind eb))
  rw [ok_bind hc] at hq
  have E3' : Env C (S3 a b c ++ Ts ++ [R1 a]) (σ ++ τ ++ [some u]) F3 H3 := by simpa only [List.append_assoc] using E3
  have r := E3'.last (v1 a b c)
  obtain ⟨p, xs, rfl, ra, rb⟩ := r.list E3'.sub
  refine ⟨p, xs, rfl, .inl (by exact ra), fun q hq2 => hq (pk a b c (cutD (ds a b c) (o2 a b) (o3 a b c))) rfl (.ref q) F3 _ ?_⟩
  rw [hS, hR]
  exact E3'.pop.pushOw hq2 ⟨_, rfl, rb.cut _ _⟩
/-- .. of a text -/
theorem ev_slS {lo hi : Option Expr} {m3 : α → β → Res γ} {S3 : α → β → γ → List Sl} {o2 : α → β → Option Int} {o3 : α → β → γ → Option Int} {U2 : α → β → List Sl} {U3 : α → β → γ → List Sl} (S' : δ → List Sl) (R : δ → Sl) (pk : α → β → γ → Str → δ) (ds : α → β → γ → D)
    (h1 : EvE X w e1 S Ts m1 S1 R1) (h2 : ∀ a, EvO X w lo (S1 a) (Ts ++ [R1 a]) (m2 a) (S2 a) (o2 a) (U2 a)) (h3 : ∀ a b, EvO X w hi (S2 a b) (Ts ++ [R1 a]) (m3 a b) (S3 a b) (o3 a b) (U3 a b))
    (v1 : ∀ a b c, vw (S3 a b c) (R1 a) = some (ds a b c) := by intros; rfl) (hS : ∀ a b c d, S' (pk a b c d) = S3 a b c := by intros; rfl) (hR : ∀ a b c d, R (pk a b c d) = .v (.str d) := by intros; rfl) :
    EvE X w (.Subscript e1 (.Slice lo hi none p2) pos) S Ts (m1.bind fun a => (m2 a).bind fun b => (m3 a b).bind fun c => match ds a b c with | .str z => if z.length ≤ sizeLine then .ok (pk a b c (cutS z (o2 a b) (o3 a b c))) else .bad | _ => .bad) S' R := by
  intro C σ τ F H Q hK hτ E hq hx hb
  refine ⟨_, pe_slice sl_str can canO canO, ?_⟩
  refine h1 C σ τ F H _ hK hτ E (fun a ha u F1 H1 E1 => ?_) (fun x ex => hx x (exc_bind ex)) (fun eb => hb (bad_bind eb))
  rw [ok_bind ha] at hq hx hb
  refine h2 a C σ (τ ++ [some u]) F1 H1 _ hK (by simp [hτ]) (by simpa only [List.append_assoc] using E1) (fun b hb2 F2 H2 E2 => ?_) (fun x ex => hx x (exc_bind ex)) (fun eb => hb (bad_bind eb))
  rw [ok_bind hb2] at hq hx hb
  refine h3 a b C σ (τ ++ [some u]) F2 H2 _ hK (by simp [hτ]) E2 (fun c hc F3 H3 E3 => ?_) (fun x ex => hx x (exc_bind ex)) (fun eb => hb (bad_bind eb))
  rw [ok_bind hc] at hq hb
  have E3' : Env C (S3 a b c ++ Ts ++ [R1 a]) (σ ++ τ ++ [some u]) F3 H3 := by simpa only [List.append_assoc] using E3
  have r := E3'.last (v1 a b c)
  generalize ds a b c = dd at r hq hb
  cases dd <;> simp only at hq hb <;> try (exact absurd rfl hb)
  rename_i z
  cases r.str
  by_cases hz : z.length ≤ sizeLine
  · rw [if_pos hz] at hq
    refine ⟨z, rfl, hz, hq (pk a b c (cutS z (o2 a b) (o3 a b c))) rfl _ F3 H3 ?_⟩
    rw [hS, hR]
    exact E3'.pop.pushV (.str _)
  · rw [if_neg hz] at hb; exact absurd rfl hb
/-! ### list + list, list * n -/
theorem Inv.lstR {pins : List (Addr × Obj)} {σ : St} {H : Hp} {s : Shared} {a : Addr} {xs : List V} (I : L2.Inv X pins σ H s) (h : Rd H a (.lst xs)) : ∃ (its : List Value) (n : Nat), Vals xs its ∧ s.heap.get? a = some { cls := .type "list", data := .seq its.toArray n } ∧ xs.length ≤ sizeLine := by
  obtain ⟨z, its, n, r, e⟩ := h.ok I.hok
  exact ⟨its, n, r, e, z⟩
def rCatR : L2.R2 := fun x y H Q => ∃ l b xs zs, x = .ref l ∧ y = .ref b ∧ Rd H l (.lst xs) ∧ Rd H b (.lst zs) ∧ xs.length + zs.length ≤ sizeLine ∧ ∀ p, H p = none → Q (.ref p) (upd H p (.lst (xs ++ zs)))
theorem op_catR : OpR X (binaryOp .Add) rCatR := by
  intro pins s σ H x y v u Q I rx ry ⟨l, b, xs, zs, ex, ey, hl, hb, hz, q⟩
  subst ex ey
  cases rx; cases ry
  obtain ⟨i1, n1, r1, g1, z1⟩ := Inv.lstR I hl
  obtain ⟨i2, n2, r2, g2, z2⟩ := Inv.lstR I hb
  have l1 := r1.length
  have l2 := r2.length
  refine PySem.P.add_list g1 g2 ?_ (by rw [List.size_toArray, List.size_toArray]; omega)
  rw [show i1.toArray ++ i2.toArray = (i1 ++ i2).toArray by simp]
  exact ⟨.ref _, _, I.lnew (t' := s.toks) (r1.append r2) (by rw [List.length_append]; omega), rfl, q _ I.fresh⟩
theorem ev_cat (S' : γ → List Sl) (R : γ → Sl) (pk : α → β → List D → γ) (d1 d2 : α → β → List D) (h1 : EvE X w e1 S Ts m1 S1 R1) (h2 : ∀ a, EvE X w e2 (S1 a) (Ts ++ [R1 a]) (m2 a) (S2 a) (R2 a))
    (v1 : ∀ a b, vw (S2 a b) (R1 a) = some (.list (d1 a b)) := by intros; rfl) (v2 : ∀ a b, vw (S2 a b) (R2 a b) = some (.list (d2 a b)) := by intros; rfl) (hS : ∀ a b d, S' (pk a b d) = S2 a b := by intros; rfl) (hR : ∀ a b d, R (pk a b d) = .ow none (.list d) := by intros; rfl) :
    EvE X w (.BinOp e1 .Add e2 pos) S Ts (m1.bind fun a => (m2 a).bind fun b => if (d1 a b).length + (d2 a b).length ≤ sizeLine then .ok (pk a b (d1 a b ++ d2 a b)) else .bad) S' R := by
  intro C σ τ F H Q hK hτ E hq hx hb
  refine ⟨_, pe_op op_catR can can, ?_⟩
  refine ev2 _ h1 h2 hK hτ E _ (fun a b ha hb2 u v F' H' E' => ?_) hx hb
  rw [ok_bind ha, ok_bind hb2] at hq hx hb
  have r1 := E'.last2 (v1 a b)
  have r2 := Env.last (T := Ts ++ [R1 a]) (ρ := σ ++ τ ++ [some u]) (by rw [← List.append_assoc]; exact E') (v2 a b)
  obtain ⟨p, xs, rfl, a1, b1⟩ := r1.list E'.sub
  obtain ⟨q, ys, rfl, a2, b2⟩ := r2.list E'.sub
  by_cases hz : (d1 a b).length + (d2 a b).length ≤ sizeLine
  · rw [if_pos hz] at hq
    refine ⟨p, q, xs, ys, rfl, rfl, a1, a2, by rw [b1.len, b2.len]; exact hz, fun r hr => hq (pk a b (d1 a b ++ d2 a b)) rfl (.ref r) F' _ ?_⟩
    rw [hS, hR]
    exact E'.pop.pop.pushOw hr ⟨_, rfl, b1.app b2⟩
  · rw [if_neg hz] at hb; exact absurd rfl hb
end
end G
namespace G
open PySem L2
/-! ## statements -/
inductive Out where
  | nx (S : List Sl) | ct (S : List Sl) | go (S : List Sl) | bk (S : List Sl) | rt (S : List Sl) (R : Sl)
def OutOk (C : EC) (Ts : List Sl) (τ : List (Option V)) (D : Ends) : Out → Prop
  | .nx S => ∀ σ F H, Env C (S ++ Ts) (σ ++ τ) F H → D.nx σ H
  | .ct S => ∀ σ F H, Env C (S ++ Ts) (σ ++ τ) F H → D.ct σ H
  | .go S => (∀ σ F H, Env C (S ++ Ts) (σ ++ τ) F H → D.nx σ H) ∧ ∀ σ F H, Env C (S ++ Ts) (σ ++ τ) F H → D.ct σ H
  | .bk S => ∀ σ F H, Env C (S ++ Ts) (σ ++ τ) F H → D.bk σ H
  | .rt S R => ∀ σ u F H, Env C (S ++ Ts ++ [R]) (σ ++ τ ++ [some u]) F H → D.rt u H
section
variable {α β γ δ Ω ε : Type}
def EvS (X : Cx) (w : Wx) (sts : List Stmt) (S Ts : List Sl) (m : Res Ω) (K : Ω → Out) : Prop :=
  ∀ (C : EC) (σ : St) (τ : List (Option V)) (F H : Hp) (D : Ends), C.K = X.K → τ.length = Ts.length → Env C (S ++ Ts) (σ ++ τ) F H → (∀ ω, m = .ok ω → OutOk C Ts τ D (K ω)) → (∀ x, m = .exc x → ∀ σ', ExH X w C σ' x) → m ≠ .bad → CanB X sts D σ H
/-- where an exit may go -/
inductive OL : Out → Out → Prop
  | rfl (o) : OL o o
  | gc (S) : OL (.go S) (.ct S)
def stays : Out → Bool
  | .nx _ => false
  | .go _ => false
  | _ => true
theorem OutOk.exit {C : EC} {Ts : List Sl} {τ : List (Option V)} {D : Ends} {o o' : Out} {N : St → Hp → Prop} (h : OutOk C Ts τ D o) (l : OL o o') (hs : stays o' = true) : OutOk C Ts τ { D with nx := N } o' := by
  cases l with
  | rfl => cases o <;> first | exact h | cases hs
  | gc S => exact h.2
variable {X : Cx} {w : Wx} {S Ts : List Sl} {m1 : Res α} {S1 : α → List Sl} {R1 : α → Sl} {e : Expr} {rest : List Stmt} {K : Ω → Out} {pos px : Pos}
theorem env0 {C : EC} {L : List Sl} {σ : St} {F H : Hp} : Env C (L ++ []) (σ ++ []) F H ↔ Env C L σ F H := by simp
theorem es_nil (ω : Ω) (h : K ω = .nx S ∨ K ω = .go S := by first | exact .inl rfl | exact .inr rfl) : EvS X w [] S Ts (.ok ω) K := by
  intro C σ τ F H D hK hτ E hq _ _
  have := hq ω rfl
  rcases h with h | h <;> rw [h] at this
  · exact ⟨_, pss_nil, this σ F H E⟩
  · exact ⟨_, pss_nil, this.1 σ F H E⟩
/-- the end of a block, its slots told in another way -/
theorem es_end {S' : List Sl} (ω : Ω) (wk : WL S S') (h : K ω = .nx S' ∨ K ω = .go S' := by first | exact .inl rfl | exact .inr rfl) : EvS X w [] S Ts (.ok ω) K := by
  intro C σ τ F H D hK hτ E hq _ _
  have := hq ω rfl
  rcases h with h | h <;> rw [h] at this
  · exact ⟨_, pss_nil, this σ F H (E.wk (wk.app (WL.refl _)))⟩
  · exact ⟨_, pss_nil, this.1 σ F H (E.wk (wk.app (WL.refl _)))⟩
theorem es_wk {S' : List Sl} {sts : List Stmt} {m : Res Ω} (wk : WL S S') (h : EvS X w sts S' Ts m K) : EvS X w sts S Ts m K := fun C σ τ F H D hK hτ E hq hx hb => h C σ τ F H D hK hτ (E.wk (wk.app (WL.refl _))) hq hx hb
/-- a slot's object, frozen from here on -/
theorem es_fz (i : Nat) {q : Option Addr} {d : D} {sts : List Stmt} {m : Res Ω} (h : EvS X w sts (S.set i (.v d)) Ts m K) (hi : S[i]? = some (.ow q d) := by rfl) : EvS X w sts S Ts m K := fun C σ τ F H D hK hτ E hq hx hb => by
  have hl := lt_of_get hi
  obtain ⟨F', E'⟩ := E.freeze (k := i) (by rw [at_left hl]; exact hi)
  rw [List.set_append_left _ _ hl] at E'
  exact h C σ τ F' H D hK hτ E' hq hx hb
theorem es_pass {m : Res Ω} (h : EvS X w rest S Ts m K) : EvS X w (.Pass pos :: rest) S Ts m K := fun C σ τ F H D hK hτ E hq hx hb =>
  ⟨_, pss_cons ps_pass canB, h C σ τ F H D hK hτ E hq hx hb⟩
theorem es_doc {x : Str} {j : Nat} {pos' : Pos} {m : Res Ω} (h : EvS X w rest S Ts m K) : EvS X w (.Expr (.Constant (.str x) j pos) pos' :: rest) S Ts m K := fun C σ τ F H D hK hτ E hq hx hb =>
  ⟨_, pss_cons ps_doc canB, h C σ τ F H D hK hτ E hq hx hb⟩
theorem es_brk (ω : Ω) (h : K ω = .bk S := by rfl) : EvS X w (.Break pos :: rest) S Ts (.ok ω) K := fun C σ τ F H D hK hτ E hq hx hb => by
  have := hq ω rfl
  rw [h] at this
  exact ⟨_, pss_cons ps_break canB, this σ F H E⟩
theorem es_brkW {S' : List Sl} (ω : Ω) (wk : WL S S') (h : K ω = .bk S' := by rfl) : EvS X w (.Break pos :: rest) S Ts (.ok ω) K := es_wk wk (es_brk ω h)
theorem es_ct (ω : Ω) (h : K ω = .ct S ∨ K ω = .go S := by first | exact .inl rfl | exact .inr rfl) : EvS X w (.Continue pos :: rest) S Ts (.ok ω) K := fun C σ τ F H D hK hτ E hq hx hb => by
  have := hq ω rfl
  rcases h with h | h <;> rw [h] at this
  · exact ⟨_, pss_cons ps_continue canB, this σ F H E⟩
  · exact ⟨_, pss_cons ps_continue canB, this.2 σ F H E⟩
theorem es_ctW {S' : List Sl} (ω : Ω) (wk : WL S S') (h : K ω = .ct S' ∨ K ω = .go S' := by first | exact .inl rfl | exact .inr rfl) : EvS X w (.Continue pos :: rest) S Ts (.ok ω) K := es_wk wk (es_ct ω h)
/-- e -/
theorem es_expr {m2 : α → Res Ω} (h1 : EvE X w e S Ts m1 S1 R1) (h2 : ∀ a, EvS X w rest (S1 a) Ts (m2 a) K) (hs : swapsWith e none pos.line X.env = pure false := by rfl) : EvS X w (.Expr e pos :: rest) S Ts (m1.bind m2) K := by
  intro C σ τ F H D hK hτ E hq hx hb
  refine ⟨_, pss_cons (ps_expr can hs) canB, ?_⟩
  refine h1 C σ τ F H _ hK hτ E (fun a ha u F1 H1 E1 => ?_) (fun x ex => hx x (exc_bind ex) σ) (fun eb => hb (bad_bind eb))
  rw [ok_bind ha] at hq hx hb
  exact h2 a C σ τ F1 H1 D hK hτ E1.pop hq hx hb
/-- return e -/
theorem es_ret (pk : α → Ω) (h1 : EvE X w e S Ts m1 S1 R1) (h : ∀ a, K (pk a) = .rt (S1 a) (R1 a) := by intros; rfl) : EvS X w (.Return (some e) pos :: rest) S Ts (m1.bind fun a => .ok (pk a)) K := by
  intro C σ τ F H D hK hτ E hq hx hb
  refine ⟨_, pss_cons (ps_ret can) canB, ?_⟩
  refine h1 C σ τ F H _ hK hτ E (fun a ha u F1 H1 E1 => ?_) (fun x ex => hx x (exc_bind ex) σ) (fun eb => hb (bad_bind eb))
  rw [ok_bind ha] at hq
  have := hq (pk a) rfl
  rw [h] at this
  exact this σ u F1 H1 E1
theorem es_ret0 (ω : Ω) (h : K ω = .rt S (.v .non) := by rfl) : EvS X w (.Return none pos :: rest) S Ts (.ok ω) K := by
  intro C σ τ F H D hK hτ E hq hx hb
  have := hq ω rfl
  rw [h] at this
  exact ⟨_, pss_cons ps_retN canB, this σ .non F H (E.pushV .non)⟩
def notAl : Sl → Bool
  | .al _ => false
  | .sc _ => false
  | .un => false
  | _ => true
theorem notAl.no {s : Sl} (h : notAl s = true) : nosc s = true ∧ noal s = true := by cases s <;> simp_all [notAl, nosc, noal]
/-- x = e -/
theorem es_asg (i : Nat) {x : Str} {m2 : α → Res Ω} (h1 : EvE X w e S Ts m1 S1 R1) (h2 : ∀ a, EvS X w rest ((S1 a).set i (R1 a)) Ts (m2 a) K) (nd : X.N.Nodup) (hi : ∀ a, i < (S1 a).length := by intros; exact Nat.le_of_ble_eq_true rfl) (hR : ∀ a, notAl (R1 a) = true := by intros; rfl)
    (hal : ∀ a, (S1 a ++ Ts).all (noalk i) = true := by intros; rfl) (hN : X.N[i]? = some x := by rfl) (hl : Loc X.env.scope x := by first | exact Or.inl rfl | exact Or.inr rfl) (hs : swapsWith e (some (.Name x px)) pos.line X.env = pure false := by rfl)
    (hf : X.fn x = true ∨ X.env.scope.names.lookup x = some .local := by first | exact .inl rfl | exact .inr rfl) : EvS X w (.Assign [.Name x px] e pos :: rest) S Ts (m1.bind m2) K := by
  intro C σ τ F H D hK hτ E hq hx hb
  refine ⟨_, pss_cons (ps_set nd hN hl can hs hf) canB, ?_⟩
  refine h1 C σ τ F H _ hK hτ E (fun a ha u F1 H1 E1 => ?_) (fun x ex => hx x (exc_bind ex) σ) (fun eb => hb (bad_bind eb))
  rw [ok_bind ha] at hq hx hb
  have n := notAl.no (hR a)
  have hl := nil_len E1.pop hτ
  have h1 := hi a
  have E2 := E1.setv (k := i) (by simp; omega) n.1 n.2 (hal a)
  rw [List.set_append_left _ _ h1, List.set_append_left _ _ (by omega)] at E2
  exact h2 a C _ τ F1 H1 D hK hτ E2 hq hx hb
/-! ### if -/
variable {t : Expr} {A B : List Stmt} {mt : Res α} {St1 : α → List Sl} {bt : α → Bool}
/-- the last statement of its block -/
theorem es_ifl {mA mB : α → Res Ω} (ht : EvT X w t S Ts mt St1 bt) (hA : ∀ a, EvS X w A (St1 a) Ts (mA a) K) (hB : ∀ a, EvS X w B (St1 a) Ts (mB a) K) : EvS X w [.If t A B pos] S Ts (mt.bind fun a => if bt a then mA a else mB a) K := by
  intro C σ τ F H D hK hτ E hq hx hb
  refine ⟨_, pss_one (ps_if canT canB canB), ?_⟩
  refine ht C σ τ F H _ hK hτ E (fun a ha F1 H1 E1 => ?_) (fun x ex => hx x (exc_bind ex) σ) (fun eb => hb (bad_bind eb))
  rw [ok_bind ha] at hq hx hb
  cases eb : bt a with
  | true =>
    rw [eb] at hq hx hb
    exact hA a C σ τ F1 H1 D hK hτ E1 hq hx hb
  | false =>
    rw [eb] at hq hx hb
    exact hB a C σ τ F1 H1 D hK hτ E1 hq hx hb
/-- if t: A, which leaves the block -/
theorem es_ifx {KE : ε → Out} {mA : α → Res ε} {mR : α → Res Ω} (emb : ε → Ω) (ht : EvT X w t S Ts mt St1 bt) (hA : ∀ a, EvS X w A (St1 a) Ts (mA a) KE) (hR : ∀ a, EvS X w rest (St1 a) Ts (mR a) K)
    (hs : ∀ o, stays (KE o) = true := by intro o; rfl) (hl : ∀ o, OL (K (emb o)) (KE o) := by intro o; first | exact .rfl _ | exact .gc _) : EvS X w (.If t A [] pos :: rest) S Ts (mt.bind fun a => if bt a then (mA a).bind fun o => .ok (emb o) else mR a) K := by
  intro C σ τ F H D hK hτ E hq hx hb
  refine ⟨_, pss_cons (ps_if canT canB pss_nil) canB, ?_⟩
  refine ht C σ τ F H _ hK hτ E (fun a ha F1 H1 E1 => ?_) (fun x ex => hx x (exc_bind ex) σ) (fun eb => hb (bad_bind eb))
  rw [ok_bind ha] at hq hx hb
  cases eb : bt a with
  | true =>
    rw [eb] at hq hx hb
    exact hA a C σ τ F1 H1 { D with nx := fun σ' H' => CanB X rest D σ' H' } hK hτ E1 (fun o ho => (hq (emb o) (ok_bind ho)).exit (hl o) (hs o)) (fun x ex => hx x (exc_bind ex)) (fun eb => hb (bad_bind eb))
  | false =>
    rw [eb] at hq hx hb
    exact hR a C σ τ F1 H1 D hK hτ E1 hq hx hb
/-- if t: A else: B, both of which go on -/
theorem es_ifj {SJ : β → List Sl} {mA mB : α → Res β} {mR : β → Res Ω} (ht : EvT X w t S Ts mt St1 bt) (hA : ∀ a, EvS X w A (St1 a) Ts (mA a) (fun b => .nx (SJ b))) (hB : ∀ a, EvS X w B (St1 a) Ts (mB a) (fun b => .nx (SJ b))) (hR : ∀ b, EvS X w rest (SJ b) Ts (mR b) K) :
    EvS X w (.If t A B pos :: rest) S Ts ((mt.bind fun a => if bt a then mA a else mB a).bind mR) K := by
  intro C σ τ F H D hK hτ E hq hx hb
  refine ⟨_, pss_cons (ps_if canT canB canB) canB, ?_⟩
  have fin : ∀ b, ((mt.bind fun a => if bt a then mA a else mB a) = .ok b) → ∀ σ' F' H', Env C (SJ b ++ Ts) (σ' ++ τ) F' H' → CanB X rest D σ' H' := fun b hb' σ' F' H' E' => by
    rw [ok_bind hb'] at hq hx hb
    exact hR b C σ' τ F' H' D hK hτ E' hq hx hb
  refine ht C σ τ F H _ hK hτ E (fun a ha F1 H1 E1 => ?_) (fun x ex => hx x (by rw [exc_bind (exc_bind ex)]) σ) (fun eb => hb (by rw [bad_bind (bad_bind eb)]))
  cases eb : bt a with
  | true =>
    have e0 : (mt.bind fun a => if bt a then mA a else mB a) = mA a := by rw [ok_bind ha, eb]; rfl
    rw [e0] at hq hx hb fin
    exact hA a C σ τ F1 H1 { D with nx := fun σ' H' => CanB X rest D σ' H' } hK hτ E1 (fun b hb' => fin b hb') (fun x ex => hx x (exc_bind ex)) (fun eb => hb (bad_bind eb))
  | false =>
    have e0 : (mt.bind fun a => if bt a then mA a else mB a) = mB a := by rw [ok_bind ha, eb]; rfl
    rw [e0] at hq hx hb fin
    exact hB a C σ τ F1 H1 { D with nx := fun σ' H' => CanB X rest D σ' H' } hK hτ E1 (fun b hb' => fin b hb') (fun x ex => hx x (exc_bind ex)) (fun eb => hb (bad_bind eb))
/-- if t: A else: B, either may go on or leave -/
def mix (SJ : β → List Sl) (KE : ε → Out) : β ⊕ ε → Out
  | .inl b => .nx (SJ b)
  | .inr o => KE o
theorem es_ifm {SJ : β → List Sl} {KE : ε → Out} {mA mB : α → Res (β ⊕ ε)} {mR : β → Res Ω} (emb : ε → Ω) (ht : EvT X w t S Ts mt St1 bt) (hA : ∀ a, EvS X w A (St1 a) Ts (mA a) (mix SJ KE)) (hB : ∀ a, EvS X w B (St1 a) Ts (mB a) (mix SJ KE)) (hR : ∀ b, EvS X w rest (SJ b) Ts (mR b) K)
    (hs : ∀ o, stays (KE o) = true := by intro o; rfl) (hl : ∀ o, OL (K (emb o)) (KE o) := by intro o; first | exact .rfl _ | exact .gc _) :
    EvS X w (.If t A B pos :: rest) S Ts ((mt.bind fun a => if bt a then mA a else mB a).bind fun r => match r with | .inl b => mR b | .inr o => .ok (emb o)) K := by
  intro C σ τ F H D hK hτ E hq hx hb
  refine ⟨_, pss_cons (ps_if canT canB canB) canB, ?_⟩
  have fin : ∀ r, ((mt.bind fun a => if bt a then mA a else mB a) = .ok r) → OutOk C Ts τ { D with nx := fun σ' H' => CanB X rest D σ' H' } (mix SJ KE r) := fun r hr => by
    rw [ok_bind hr] at hq hx hb
    cases r with
    | inl b => exact fun σ' F' H' E' => hR b C σ' τ F' H' D hK hτ E' hq hx hb
    | inr o => exact (hq (emb o) rfl).exit (hl o) (hs o)
  refine ht C σ τ F H _ hK hτ E (fun a ha F1 H1 E1 => ?_) (fun x ex => hx x (by rw [exc_bind (exc_bind ex)]) σ) (fun eb => hb (by rw [bad_bind (bad_bind eb)]))
  cases eb : bt a with
  | true =>
    have e0 : (mt.bind fun a => if bt a then mA a else mB a) = mA a := by rw [ok_bind ha, eb]; rfl
    rw [e0] at hq hx hb fin
    exact hA a C σ τ F1 H1 _ hK hτ E1 fin (fun x ex => hx x (exc_bind ex)) (fun eb => hb (bad_bind eb))
  | false =>
    have e0 : (mt.bind fun a => if bt a then mA a else mB a) = mB a := by rw [ok_bind ha, eb]; rfl
    rw [e0] at hq hx hb fin
    exact hB a C σ τ F1 H1 _ hK hτ E1 fin (fun x ex => hx x (exc_bind ex)) (fun eb => hb (bad_bind eb))
/-! ### while -/
def whileD {β ε : Type} (cond : β → Res Bool) (body : β → Res (β ⊕ ε)) : Nat → β → Res (β ⊕ ε)
  | 0, _ => .bad
  | n + 1, b => (cond b).bind fun c => if c then (body b).bind fun r => match r with
      | .inl b' => whileD cond body n b'
      | .inr e => .ok (.inr e)
    else .ok (.inl b)
/-- how a turn of a loop ends: on, or out (a break: its slots then) -/
def lpK (SJ : β → List Sl) (KE : ε → Out) : β ⊕ ε → Out
  | .inl b => .go (SJ b)
  | .inr o => KE o
theorem es_while {body : List Stmt} {SJ : β → List Sl} {KE : ε → Out} {cond : β → Res Bool} {mb : β → Res (β ⊕ ε)} {mR : β → Res Ω} (fuel : Nat) (b0 : β) (emb : ε → Ω) (wk : WL S (SJ b0)) (hp : PassesOwn (model X.prog X.w) X.A X.env X.xe)
    (ht : ∀ b, EvT X w t (SJ b) Ts (cond b) (fun _ => SJ b) id) (hb : ∀ b, EvS X w body (SJ b) Ts (mb b) (lpK SJ KE)) (hR : ∀ b, EvS X w rest (SJ b) Ts (mR b) K)
    (hs : ∀ o, ∃ S R, KE o = .rt S R := by intro o; exact ⟨_, _, rfl⟩) (hl : ∀ o, K (emb o) = KE o := by intro o; rfl) :
    EvS X w (.While t body [] pos :: rest) S Ts ((whileD cond mb fuel b0).bind fun r => match r with | .inl b => mR b | .inr o => .ok (emb o)) K := by
  intro C σ τ F H D hK hτ E hq hx hbad
  refine ⟨_, pss_cons (ps_while hp canT canB) canB, ?_⟩
  generalize hr : whileD cond mb fuel b0 = r at hq hx hbad
  refine ⟨fun n σ H => ∃ b F, Env C (SJ b ++ Ts) (σ ++ τ) F H ∧ whileD cond mb n b = r, ⟨fuel, b0, F, E.wk (wk.app (WL.refl _)), hr⟩, ?_⟩
  rintro n σ1 H1 ⟨b, F1, E1, hn⟩
  cases n with
  | zero =>
    subst hn
    exact absurd rfl hbad
  | succ n =>
    simp only [whileD] at hn
    refine ht b C σ1 τ F1 H1 _ hK hτ E1 (fun c hc F2 H2 E2 => ?_) (fun x ex => hx x (by rw [← hn, exc_bind ex]; rfl) σ1) (fun eb => hbad (by rw [← hn, bad_bind eb]; rfl))
    rw [ok_bind hc] at hn
    cases c with
    | false =>
      subst hn
      show CanB X rest D σ1 H2
      exact hR b C σ1 τ F2 H2 D hK hτ E2 hq hx hbad
    | true =>
      rw [if_pos rfl] at hn
      refine ⟨fun σ' H' => ∃ b F, Env C (SJ b ++ Ts) (σ' ++ τ) F H' ∧ whileD cond mb n b = r, fun σ' H' ⟨b', F', E', h'⟩ => ⟨n, Nat.lt_succ_self n, b', F', E', h'⟩, ?_⟩
      refine hb b C σ1 τ F2 H2 _ hK hτ E2 (fun o ho => ?_) (fun x ex => hx x (by rw [← hn, exc_bind ex]; rfl)) (fun eb => hbad (by rw [← hn, bad_bind eb]; rfl))
      rw [ok_bind ho] at hn
      cases o with
      | inl b' => exact ⟨fun σ' F' H' E' => ⟨b', F', E', hn⟩, fun σ' F' H' E' => ⟨b', F', E', hn⟩⟩
      | inr o =>
        subst hn
        have := hq (emb o) rfl
        rw [hl] at this
        obtain ⟨S0, R0, e0⟩ := hs o
        show OutOk C Ts τ _ (KE o)
        rw [e0] at this ⊢
        exact this
end
end G
namespace G
open PySem L2
/-! ## for -/
/-- what a temporary is walked as -/
inductive Src where
  | any | lst (ds : List D) | tup (ds : List D)
def vq (L : List Sl) (R : Sl) : Option (List D) := match vs L R with
  | some ds => some ds
  | none => match vw L R with
    | some (.list ds) => some ds
    | _ => none
def pv (L : List Sl) (R : Sl) : Src → Prop
  | .any => True
  | .lst ds => vq L R = some ds
  | .tup ds => vw L R = some (.tup ds)
def pvs (L : List Sl) : List Sl → List Src → Prop
  | R :: Rs, s :: ss => pv L R s ∧ pvs L Rs ss
  | _, _ => True
/-- J walks over ds, wherever the walked things us stand in their places Rs -/
def ItOk (X : Cx) (J : It) (us : List V) (Rs : List Sl) (ss : List Src) (ds : List D) : Prop :=
  ∀ (C : EC) (L T : List Sl) (ρ : List (Option V)) (F H : Hp) (i : Nat), C.K = X.K → Env C (L ++ T ++ Rs) (ρ ++ us.map some) F H → pvs L Rs ss →
    (∀ d, ds[i]? = some d → J.go i H ∧ ∀ x H', J.yld i H x H' → ∃ F', Env C (L ++ T ++ Rs) (ρ ++ us.map some) F' H' ∧ Rp X.K F' x d) ∧ (ds.length ≤ i → J.stop i H)
def CanI (X : Cx) (tg iter : Expr) : TI := fun σ H R => ∃ wi, PI X tg iter wi ∧ wi σ H R
theorem canI {X : Cx} {tg iter : Expr} : PI X tg iter (CanI X tg iter) := ⟨fun pins s σ H R I ⟨_, h, q⟩ => h.run pins s σ H R I q⟩
def CanG (X : Cx) (tg : Expr) : TG := fun v σ H Q => ∃ t, PG X tg t ∧ t v σ H Q
theorem canG {X : Cx} {tg : Expr} : PG X tg (CanG X tg) := ⟨fun pins s σ H v u Q I r ⟨_, h, q⟩ => h.run pins s σ H v u Q I r q⟩
section
variable {α β γ δ Ω ε : Type}
def EvI (X : Cx) (w : Wx) (tg iter : Expr) (S Ts : List Sl) (m : Res α) (S' : α → List Sl) (Rs : α → List Sl) (ss : α → List Src) (ds : α → List D) : Prop :=
  ∀ (C : EC) (σ : St) (τ : List (Option V)) (F H : Hp) (Q : It → Hp → Prop), C.K = X.K → τ.length = Ts.length → Env C (S ++ Ts) (σ ++ τ) F H →
    (∀ a, m = .ok a → ∀ us F' H' J, us.length = (Rs a).length → Env C (S' a ++ Ts ++ Rs a) (σ ++ τ ++ us.map some) F' H' → ItOk X J us (Rs a) (ss a) (ds a) → Q J H') → (∀ x, m = .exc x → ExH X w C σ x) → m ≠ .bad → CanI X tg iter σ H Q
/-- but for ks the slots are as they were -/
def Off (ks : List Nat) (σ σ' : St) : Prop := σ'.length = σ.length ∧ ∀ i : Nat, i ∉ ks → σ'[i]? = σ[i]?
/-- a target; ks: the places it stores -/
def EvG (X : Cx) (tg : Expr) (S : List Sl) (d : D) (m : Res α) (S' : α → List Sl) (ks : List Nat) : Prop :=
  ∀ (C : EC) (Ts : List Sl) (σ : St) (τ : List (Option V)) (F H : Hp) (x : V) (Q : St → Hp → Prop), C.K = X.K → τ.length = Ts.length → Env C (S ++ Ts) (σ ++ τ) F H → Rp X.K F x d → (S ++ Ts).all (fun s => ks.all (noalk · s)) = true →
    (∀ a, m = .ok a → ∀ σ', Off ks σ σ' → Env C (S' a ++ Ts) (σ' ++ τ) F H → Q σ' H) → m ≠ .bad → CanG X tg x σ H Q
section
variable {X : Cx} {w : Wx} {S Ts : List Sl} {pos px : Pos}
theorem eg_name (i : Nat) {x : Str} {d : D} (nd : X.N.Nodup) (hi : i < S.length := by exact Nat.le_of_ble_eq_true rfl) (hN : X.N[i]? = some x := by rfl) (hl : Loc X.env.scope x := by first | exact Or.inl rfl | exact Or.inr rfl)
    (hf : X.fn x = true ∨ X.env.scope.names.lookup x = some .local := by first | exact .inl rfl | exact .inr rfl) : EvG X (.Name x pos) S d (.ok ()) (fun _ => S.set i (.v d)) [i] := by
  intro C Ts σ τ F H u Q hK hτ E r ha hq hb
  have hlen := nil_len E hτ
  refine ⟨_, pg_name nd hN hl hf, ?_⟩
  refine hq () rfl _ ⟨by simp, fun j hj => List.getElem?_set_ne (by intro e; subst e; simp at hj)⟩ ?_
  have E1 := (E.pushV (x := u) (d := d) (by rw [hK]; exact r)).setv (k := i) (by simp; omega) rfl rfl (by
    rw [List.all_eq_true] at ha ⊢
    intro s hs
    have := ha s hs
    simpa using this)
  rw [List.set_append_left _ _ hi, List.set_append_left _ _ (by omega)] at E1
  exact E1
def tup2 : D → Res (D × D)
  | .tup [a, b] => .ok (a, b)
  | _ => .bad
def tup3 : D → Res (D × D × D)
  | .tup [a, b, c] => .ok (a, b, c)
  | _ => .bad
theorem eg_tup2 {t1 t2 : Expr} {k : Nat} {d : D} {m1 : D → Res α} {S1 : D → α → List Sl} {k1 k2 : List Nat} {m2 : D → D → α → Res β} {S2 : D → D → α → β → List Sl} (S' : γ → List Sl) (pk : D → D → α → β → γ) (hc : X.calm = true)
    (h1 : ∀ a, EvG X t1 S a (m1 a) (S1 a) k1) (h2 : ∀ a b x, EvG X t2 (S1 a x) b (m2 a b x) (S2 a b x) k2) (hal : ∀ a x, (S1 a x).all noal = true := by intros; rfl) (hS : ∀ a b x y, S' (pk a b x y) = S2 a b x y := by intros; rfl)
    (hn : (assignEach [t1, t2] X.env).length = 2 := by rfl) (hst : (assignEach [t1, t2] X.env).findIdx? (·.1) = none := by rfl)
    (hs1 : (assignEach [t1, t2] X.env).map (·.2) = assign t1 X.env :: (assignEach [t2] X.env).map (·.2) := by rfl) (hs2 : (assignEach [t2] X.env).map (·.2) = assign t2 X.env :: (assignEach [] X.env).map (·.2) := by rfl) :
    EvG X (.Tuple [t1, t2] k pos) S d ((tup2 d).bind fun p => (m1 p.1).bind fun x => (m2 p.1 p.2 x).bind fun y => .ok (pk p.1 p.2 x y)) S' (k1 ++ k2) := by
  intro C Ts σ τ F H u Q hK hτ E r ha hq hb
  refine ⟨_, pg_tup hc (pgs_cons canG (pgs_cons canG pgs_nil hs2) hs1) hn hst, ?_⟩
  cases d <;> try (exact absurd rfl hb)
  rename_i ds
  match ds, r, hq, hb with
  | [], _, _, hb => exact absurd rfl hb
  | [a], _, _, hb => exact absurd rfl hb
  | a :: b :: c :: ds, _, _, hb => exact absurd rfl hb
  | [a, b], r, hq, hb =>
    have e0 : ((tup2 (.tup [a, b])).bind fun p => (m1 p.1).bind fun x => (m2 p.1 p.2 x).bind fun y => .ok (pk p.1 p.2 x y)) = (m1 a).bind fun x => (m2 a b x).bind fun y => .ok (pk a b x y) := rfl
    rw [e0] at hq hb
    cases r with
    | tup hs hr =>
      rename_i p xs
      cases hr with
      | cons ra hr =>
        cases hr with
        | cons rb hr =>
          cases hr
          rename_i u1 u2
          rw [List.all_eq_true] at ha
          refine ⟨p, [u1, u2], rfl, E.sub.st hs, rfl, u1, [u2], rfl, ?_⟩
          refine h1 a C Ts σ τ F H u1 _ hK hτ E ra (by
            rw [List.all_eq_true]; intro s hs
            have := ha s hs
            rw [List.all_append, Bool.and_eq_true] at this
            exact this.1) (fun x hx σ1 O1 E1 => ?_) (fun eb => hb (bad_bind eb))
          rw [ok_bind hx] at hq hb
          refine ⟨u2, [], rfl, ?_⟩
          refine h2 a b x C Ts σ1 τ F H u2 _ hK hτ E1 rb (by
            rw [List.all_eq_true]; intro s hs
            rcases List.mem_append.mp hs with h | h
            · have := List.all_eq_true.mp (hal a x) s h
              cases s <;> simp [noal, noalk] at this ⊢
            · have := ha s (List.mem_append_right _ h)
              rw [List.all_append, Bool.and_eq_true] at this
              exact this.2) (fun y hy σ2 O2 E2 => ?_) (fun eb => hb (bad_bind eb))
          rw [ok_bind hy] at hq
          refine ⟨rfl, hq (pk a b x y) rfl σ2 ⟨O2.1.trans O1.1, fun j hj => ?_⟩ (by rw [hS]; exact E2)⟩
          rw [List.mem_append, not_or] at hj
          exact (O2.2 j hj.2).trans (O1.2 j hj.1)
/-! ### what is walked -/
section
variable {tg e e2 : Expr} {m1 : Res α} {S1 : α → List Sl} {R1 : α → Sl}
theorem vq_list {C : EC} {L T : List Sl} {s : Sl} {ρ : List (Option V)} {u : V} {F H : Hp} {ds : List D} (E : Env C (L ++ T ++ [s]) (ρ ++ [some u]) F H) (h : vq L s = some ds) : ∃ p xs, u = .ref p ∧ SqL C.K H p xs ∧ RpL C.K F xs ds := by
  unfold vq at h
  split at h
  · cases h
    exact E.lastS (by assumption)
  · split at h
    · cases h
      rename_i hv
      obtain ⟨p, xs, a, b, c⟩ := (E.last hv).list E.sub
      exact ⟨p, xs, a, .inl b, c⟩
    · cases h
theorem ItOk.list {R : Sl} {ds : List D} {a : Addr} : ItOk X (Itl X.K a) [.ref a] [R] [.lst ds] ds := by
  intro C L T ρ F H i hK E hv
  obtain ⟨p, xs, e, hx, hr⟩ := vq_list (u := .ref a) E hv.1
  cases e
  rw [hK] at hx hr
  refine ⟨fun d hd => ?_, fun hl => ⟨xs, hx, by rw [hr.len]; exact hl⟩⟩
  obtain ⟨x, h1, h2⟩ := hr.get hd
  refine ⟨⟨xs, x, hx, h1⟩, fun y H' hy => ?_⟩
  obtain ⟨rfl, hy⟩ := hy
  have := hy xs hx
  rw [h1] at this; cases this
  exact ⟨F, E, h2⟩
/-- for .. in a list -/
theorem ei_list (d1 : α → List D) (h1 : EvE X w e S Ts m1 S1 R1) (v1 : ∀ a, vq (S1 a) (R1 a) = some (d1 a) := by intros; rfl) : EvI X w tg e S Ts m1 S1 (fun a => [R1 a]) (fun a => [.lst (d1 a)]) d1 := by
  intro C σ τ F H Q hK hτ E hq hx hb
  refine ⟨_, pi_list can, ?_⟩
  refine h1 C σ τ F H _ hK hτ E (fun a ha u F1 H1 E1 => ?_) hx hb
  obtain ⟨p, xs, rfl, h2, h3⟩ := vq_list E1 (v1 a)
  rw [hK] at h2
  exact ⟨p, rfl, ⟨xs, h2⟩, hq a ha [.ref p] F1 H1 _ rfl E1 ItOk.list⟩
/-- .. in a tuple -/
theorem ei_tup (d1 : α → List D) (h1 : EvE X w e S Ts m1 S1 R1) (v1 : ∀ a, vw (S1 a) (R1 a) = some (.tup (d1 a)) := by intros; rfl) : EvI X w tg e S Ts m1 S1 (fun a => [R1 a]) (fun a => [.tup (d1 a)]) d1 := by
  intro C σ τ F H Q hK hτ E hq hx hb
  refine ⟨_, pi_tup can, ?_⟩
  refine h1 C σ τ F H _ hK hτ E (fun a ha u F1 H1 E1 => ?_) hx hb
  obtain ⟨p, xs, rfl, h2, h3⟩ := (E1.last (v1 a)).tup E1.sub
  rw [hK] at h2
  refine ⟨p, rfl, ⟨xs, h2⟩, hq a ha [.ref p] F1 H1 _ rfl E1 ?_⟩
  intro C L T ρ F H i hK E hv
  obtain ⟨p', ys, e, hy, hr⟩ := (Env.last (u := .ref p) E hv.1).tup E.sub
  cases e
  rw [hK] at hy hr
  refine ⟨fun d hd => ?_, fun hl => ⟨ys, hy, by rw [hr.len]; exact hl⟩⟩
  obtain ⟨x, g1, g2⟩ := hr.get hd
  refine ⟨⟨ys, x, hy, g1⟩, fun y H' hyy => ?_⟩
  obtain ⟨rfl, hyy⟩ := hyy
  have := hyy ys hy
  rw [g1] at this; cases this
  exact ⟨F, E, g2⟩
theorem ItOk.range {lo : Int} {n : Nat} : ItOk X (Itr lo n) [] [] [] ((List.range n).map fun (i : Nat) => D.int (lo + (i : Int))) := by
  intro C L T ρ F H i hK E hv
  refine ⟨fun d hd => ?_, fun hl => (show n ≤ i by simpa using hl)⟩
  rw [List.getElem?_map] at hd
  have hi : i < n := by
    have := lt_of_get (by rw [← List.getElem?_map] at hd; exact hd : ((List.range n).map fun (i : Nat) => D.int (lo + (i : Int)))[i]? = some d)
    simpa using this
  rw [List.getElem?_range hi] at hd
  cases hd
  refine ⟨hi, fun x H' hx => ?_⟩
  obtain ⟨rfl, rfl⟩ := hx
  exact ⟨F, E, .int _⟩
def rngD (lo hi : Int) : List D := (List.range (hi - lo).toNat).map fun (i : Nat) => D.int (lo + (i : Int))
def inR (i : Int) : Bool := decide (-(2 ^ 62) ≤ i) && decide (i < 2 ^ 62)
theorem inR_ok {i : Int} (h : inR i = true) : -(2 ^ 62) ≤ i ∧ i < 2 ^ 62 := by simpa [inR] using h
/-- range(n) -/
theorem ei_range1 {p : Pos} (S' : γ → List Sl) (pk : α → Int → γ) (ds : γ → List D) (d1 : α → D) (hm : X.mg "range" = none) (h1 : EvE X w e S Ts m1 S1 R1) (hg : Gl X "range" := by rfl) (hs : starEach [e] X.env = [(false, eval e X.env)] := by rfl)
    (v1 : ∀ a, vw (S1 a) (R1 a) = some (d1 a) := by intros; rfl) (hS : ∀ a i, S' (pk a i) = S1 a := by intros; rfl) (hd : ∀ a i, ds (pk a i) = rngD 0 i := by intros; rfl) :
    EvI X w tg (.Call (.Name "range" p) [e] [] pos) S Ts (m1.bind fun a => (intD (d1 a)).bind fun i => if inR i then .ok (pk a i) else .bad) S' (fun _ => []) (fun _ => []) ds := by
  intro C σ τ F H Q hK hτ E hq hx hb
  refine ⟨_, pi_range1 hg hm (pa_cons can pa_nil hs) hs, ?_⟩
  refine h1 C σ τ F H _ hK hτ E (fun a ha u F1 H1 E1 => ?_) (fun x ex => hx x (exc_bind ex)) (fun eb => hb (bad_bind eb))
  rw [ok_bind ha] at hq hb
  have r := E1.last (v1 a)
  generalize d1 a = dd at r hq hb
  cases dd <;> simp only [intD] at hq hb <;> try (exact absurd rfl hb)
  cases r.int
  rename_i i
  simp only [Res.bind_ok] at hq hb
  by_cases hz : inR i = true
  · rw [if_pos hz] at hq
    have hz' := inR_ok hz
    refine ⟨i, rfl, hz'.1, hz'.2, hq (pk a i) rfl [] F1 H1 _ rfl ?_ ?_⟩
    · rw [hS]; simpa using E1.pop
    · rw [hd]
      unfold rngD
      rw [show (i - 0).toNat = i.toNat by omega]
      exact ItOk.range
  · rw [if_neg hz] at hb; exact absurd rfl hb
theorem ei_range2 {p : Pos} {m2 : α → Res β} {S2 : α → β → List Sl} {R2 : α → β → Sl} (S' : γ → List Sl) (pk : α → β → Int → Int → γ) (ds : γ → List D) (d1 d2 : α → β → D) (hm : X.mg "range" = none) (h1 : EvE X w e S Ts m1 S1 R1) (h2 : ∀ a, EvE X w e2 (S1 a) (Ts ++ [R1 a]) (m2 a) (S2 a) (R2 a))
    (hg : Gl X "range" := by rfl) (hs : starEach [e, e2] X.env = [(false, eval e X.env), (false, eval e2 X.env)] := by rfl) (hs2 : starEach [e2] X.env = [(false, eval e2 X.env)] := by rfl)
    (v1 : ∀ a b, vw (S2 a b) (R1 a) = some (d1 a b) := by intros; rfl) (v2 : ∀ a b, vw (S2 a b) (R2 a b) = some (d2 a b) := by intros; rfl) (hS : ∀ a b i j, S' (pk a b i j) = S2 a b := by intros; rfl) (hd : ∀ a b i j, ds (pk a b i j) = rngD i j := by intros; rfl) :
    EvI X w tg (.Call (.Name "range" p) [e, e2] [] pos) S Ts (m1.bind fun a => (m2 a).bind fun b => (intD (d1 a b)).bind fun i => (intD (d2 a b)).bind fun j => if inR i && inR j then .ok (pk a b i j) else .bad) S' (fun _ => []) (fun _ => []) ds := by
  intro C σ τ F H Q hK hτ E hq hx hb
  refine ⟨_, pi_range2 hg hm (pa_cons can (pa_cons can pa_nil hs2) (by rw [hs, hs2])) hs hs2, ?_⟩
  refine ev2 _ h1 h2 hK hτ E _ (fun a b ha hb2 u v F1 H1 E1 => ?_) hx hb
  rw [ok_bind ha, ok_bind hb2] at hq hb
  have r1 := E1.last2 (v1 a b)
  have r2 := Env.last (T := Ts ++ [R1 a]) (ρ := σ ++ τ ++ [some u]) (by rw [← List.append_assoc]; exact E1) (v2 a b)
  generalize d1 a b = dd at r1 hq hb
  cases dd <;> simp only [intD] at hq hb <;> try (exact absurd rfl hb)
  rename_i i
  generalize d2 a b = dd at r2 hq hb
  cases dd <;> simp only at hq hb <;> try (exact absurd rfl hb)
  rename_i j
  cases r1.int; cases r2.int
  simp only [Res.bind_ok] at hq hb
  by_cases hz : (inR i && inR j) = true
  · rw [if_pos hz] at hq
    rw [Bool.and_eq_true] at hz
    have z1 := inR_ok hz.1
    have z2 := inR_ok hz.2
    refine ⟨i, j, rfl, ⟨z1.1, z1.2, z2.1, z2.2⟩, hq (pk a b i j) rfl [] F1 H1 _ rfl ?_ ?_⟩
    · rw [hS]; simpa using E1.pop.pop
    · rw [hd]; exact ItOk.range
  · rw [if_neg hz] at hb; exact absurd rfl hb
def enumD (ds : List D) : List D := ds.mapIdx fun i d => .tup [.int (i : Int), d]
/-- a new tuple comes, and is not kept -/
theorem Env.newTup {C : EC} {L : List Sl} {ρ : List (Option V)} {F H : Hp} {p : Addr} {xs : List V} {ds : List D} (E : Env C L ρ F H) (hp : H p = none) (h : RpL C.K F xs ds) : Env C L ρ (upd F p (.tup xs)) (upd H p (.tup xs)) ∧ Rp C.K (upd F p (.tup xs)) (.ref p) (.tup ds) := by
  have E1 := E.pushTup hp h
  refine ⟨E1.pop, ?_⟩
  obtain ⟨x, a, b⟩ := E1.va L.length _ at_last
  rw [← E.len, at_last] at a; cases a
  exact b
/-- enumerate(xs) -/
theorem ei_enum {p tpos : Pos} {elts : List Expr} {kk : Nat} (ds : α → List D) (d1 : α → List D) (hm : X.mg "enumerate" = none) (h1 : EvE X w e S Ts m1 S1 R1) (hg : Gl X "enumerate" := by rfl) (hs : starEach [e] X.env = [(false, eval e X.env)] := by rfl)
    (v1 : ∀ a, vq (S1 a) (R1 a) = some (d1 a) := by intros; rfl) (hd : ∀ a, ds a = enumD (d1 a) := by intros; rfl) : EvI X w (.Tuple elts kk tpos) (.Call (.Name "enumerate" p) [e] [] pos) S Ts m1 S1 (fun a => [R1 a]) (fun a => [.lst (d1 a)]) ds := by
  intro C σ τ F H Q hK hτ E hq hx hb
  refine ⟨_, pi_enum hg hm (pa_cons can pa_nil hs) hs, ?_⟩
  refine h1 C σ τ F H _ hK hτ E (fun a ha u F1 H1 E1 => ?_) hx hb
  obtain ⟨p, xs, rfl, h2, h3⟩ := vq_list E1 (v1 a)
  rw [hK] at h2
  refine ⟨p, xs, rfl, h2, hq a ha [.ref p] F1 H1 _ rfl E1 ?_⟩
  intro C L T ρ F H i hK E hv
  obtain ⟨p', ys, e, hy, hr⟩ := vq_list (u := .ref p) E hv.1
  cases e
  rw [hK] at hy
  rw [hd]
  unfold enumD
  refine ⟨fun d hd => ?_, fun hl => ⟨ys, hy, by rw [hr.len]; simpa using hl⟩⟩
  rw [List.getElem?_mapIdx] at hd
  obtain ⟨d0, hd0, rfl⟩ := Option.map_eq_some_iff.mp hd
  obtain ⟨x, g1, g2⟩ := hr.get hd0
  refine ⟨⟨ys, x, hy, g1⟩, fun y H' hyy => ?_⟩
  obtain ⟨T', z, rfl, hT, rfl, hz⟩ := hyy
  have := hz ys hy
  rw [g1] at this; cases this
  have := E.newTup hT (.cons (.int (i : Int)) (.cons g2 .nil))
  rw [hK] at this
  exact ⟨_, this.1, this.2⟩
end
/-! ### for -/
/-- the turns of a loop -/
def forD {β ε : Type} (body : β → D → Res (β ⊕ ε)) : List D → β → Res (β ⊕ ε)
  | [], b => .ok (.inl b)
  | d :: ds, b => (body b d).bind fun r => match r with
    | .inl b' => forD body ds b'
    | .inr e => .ok (.inr e)
inductive Ex (β ε : Type) where
  | brk (b : β) | ret (o : ε)
/-- how a turn ends; behind a break the loop's names stand as SJ says -/
def turnK (SJ : β → List Sl) (KE : ε → Out) : β ⊕ Ex β ε → Out
  | .inl b => .go (SJ b)
  | .inr (.brk b) => .bk (SJ b)
  | .inr (.ret o) => KE o
section
variable {X : Cx} {w : Wx} {S Ts : List Sl} {tg iter : Expr} {body rest : List Stmt} {mi : Res α} {Si : α → List Sl} {Rs : α → List Sl} {ss : α → List Src} {ds : α → List D} {SJ : β → List Sl} {K : Ω → Out} {pos : Pos}
theorem wl_pre {L M T : List Sl} (h : WL L M) : WL (L ++ T) (M ++ T) := h.app (WL.refl T)
/-- what stands in between is not needed -/
theorem Env.mid {C : EC} {L M N : List Sl} {ρ μ ν : List (Option V)} {F H : Hp} (h1 : ρ.length = L.length) (h2 : μ.length = M.length) (hN : N.all noal = true) (E : Env C (L ++ M ++ N) (ρ ++ μ ++ ν) F H) : Env C (L ++ N) (ρ ++ ν) F H := by
  have h3 : ν.length = N.length := by have := E.len; simp at this; omega
  obtain ⟨f, hf, hm⟩ : ∃ f : Nat → Nat, (∀ i, (i < L.length → f i = i) ∧ (L.length ≤ i → f i = i + M.length)) ∧ ∀ i j, i ≠ j → f i ≠ f j := by
    refine ⟨fun i => if i < L.length then i else i + M.length, fun i => ⟨fun h => if_pos h, fun h => if_neg (by omega)⟩, fun i j h => ?_⟩
    show (if i < L.length then i else i + M.length) ≠ (if j < L.length then j else j + M.length)
    split <;> split <;> omega
  have gL : ∀ i, (L ++ N)[i]? = (L ++ M ++ N)[f i]? := fun i => by
    by_cases hi : i < L.length
    · rw [(hf i).1 hi, List.append_assoc, List.getElem?_append_left hi, List.getElem?_append_left hi]
    · rw [(hf i).2 (by omega), List.getElem?_append_right (by omega), List.getElem?_append_right (by simp; omega)]
      congr 1
      simp; omega
  have gR : ∀ i, (ρ ++ ν)[i]? = (ρ ++ μ ++ ν)[f i]? := fun i => by
    by_cases hi : i < L.length
    · rw [(hf i).1 hi, List.append_assoc, List.getElem?_append_left (by omega), List.getElem?_append_left (by omega)]
    · rw [(hf i).2 (by omega), List.getElem?_append_right (by omega), List.getElem?_append_right (by simp; omega)]
      congr 1
      simp; omega
  refine ⟨by simp [h1, h3], E.sub, fun i d h => ?_, fun i q d h => ?_, fun i d h => ?_, fun i j h => ?_, fun i ds h => ?_, fun i j p q d q' d' hne e1 e2 e3 e4 => ?_, E.hold, E.gg, E.gn⟩
  · rw [gR]; rw [gL] at h; exact E.va _ d h
  · rw [gR]; rw [gL] at h; exact E.ow _ q d h
  · rw [gR]; rw [gL] at h
    obtain ⟨x, a, b⟩ := E.rd _ d h
    refine ⟨x, a, b.imp id ?_⟩
    rintro ⟨p, o, e1, e2, e3, e4⟩
    exact ⟨p, o, e1, e2, e3, fun j q d' hj hj2 => e4 (f j) q d' (by rw [← gL]; exact hj) (by rw [← gR]; exact hj2)⟩
  · have hi : i < L.length := by
      by_cases hi : i < L.length
      · exact hi
      · rw [List.getElem?_append_right (by omega)] at h
        have := List.all_eq_true.mp hN _ (List.mem_of_getElem? h)
        cases this
    have h' := h
    rw [gL] at h'
    obtain ⟨a, x, b, c⟩ := E.al _ j h'
    rw [(hf i).1 hi] at a b
    refine ⟨a, x, by rw [gR, (hf i).1 hi]; exact b, by rw [gR, (hf j).1 (by omega)]; exact c⟩
  · rw [gR]; rw [gL] at h; exact E.sc _ ds h
  · rw [gL] at e1 e2; rw [gR] at e3 e4
    exact E.apart _ _ p q d q' d' (hm i j hne) e1 e2 e3 e4
theorem es_for {KE : ε → Out} {mg : β → D → Res γ} {Sg : β → D → γ → List Sl} {mB : β → D → γ → Res (β ⊕ Ex β ε)} {ks : List Nat} {mR : β → Res Ω} (b0 : α → β) (emb : ε → Ω)
    (hp : PassesOwn (model X.prog X.w) X.A X.env X.xe) (hc : X.calm = true) (hi : EvI X w tg iter S Ts mi Si Rs ss ds) (wk : ∀ a, WL (Si a) (SJ (b0 a)))
    (hg : ∀ b d, EvG X tg (SJ b) d (mg b d) (Sg b d) ks) (hB : ∀ a b d g, EvS X w body (Sg b d g) (Ts ++ Rs a) (mB b d g) (turnK SJ KE)) (hR : ∀ b, EvS X w rest (SJ b) Ts (mR b) K)
    (hv : ∀ a b, pvs (SJ b) (Rs a) (ss a) := by intros; repeat' (first | trivial | rfl | constructor)) (hal : ∀ a b, (SJ b ++ (Ts ++ Rs a)).all (fun s => ks.all (noalk · s)) = true := by intros; rfl)
    (hs : ∀ o, ∃ S R, KE o = .rt S R ∧ noal R = true := by intro o; first | exact ⟨_, _, rfl, rfl⟩ | exact ⟨_, _, rfl, optS_noal _⟩) (hl : ∀ o, K (emb o) = KE o := by intro o; rfl)
    (hf : ∀ x, foldedSetIterable iter X.env x = pure x := by intro _; rfl) :
    EvS X w (.For tg iter body [] pos :: rest) S Ts (mi.bind fun a => (forD (fun b d => (mg b d).bind (mB b d)) (ds a) (b0 a)).bind fun r => match r with | .inl b => mR b | .inr (.brk b) => mR b | .inr (.ret o) => .ok (emb o)) K := by
  intro C σ τ F H D hK hτ E hq hx hb
  refine ⟨_, pss_cons (ps_for hp hc canI canG canB hf) canB, ?_⟩
  refine hi C σ τ F H _ hK hτ E (fun a ha us F1 H1 J hlu E1 hJ => ?_) (fun x ex => hx x (exc_bind ex) σ) (fun eb => hb (bad_bind eb))
  rw [ok_bind ha] at hq hx hb
  generalize hr : forD (fun b d => (mg b d).bind (mB b d)) (ds a) (b0 a) = r at hq hx hb
  have hτ2 : (τ ++ us.map some).length = (Ts ++ Rs a).length := by simp [hτ, hlu]
  refine ⟨fun i n σ' H' => ∃ b F', n = (ds a).length - i ∧ i ≤ (ds a).length ∧ Env C (SJ b ++ (Ts ++ Rs a)) (σ' ++ (τ ++ us.map some)) F' H' ∧ forD (fun b d => (mg b d).bind (mB b d)) ((ds a).drop i) b = r, ⟨(ds a).length, b0 a, F1, by simp, Nat.zero_le _, ?_, hr⟩, ?_⟩
  · rw [← List.append_assoc, ← List.append_assoc]
    exact E1.wk ((wl_pre (wk a)).app (WL.refl _))
  rintro i n σ' H' ⟨b, F', rfl, hin, E', hd⟩
  have EJ : Env C (SJ b ++ Ts ++ Rs a) (σ' ++ τ ++ us.map some) F' H' := by simpa only [List.append_assoc] using E'
  obtain ⟨j1, j2⟩ := hJ C (SJ b) Ts (σ' ++ τ) F' H' i hK EJ (hv a b)
  by_cases hlt : i < (ds a).length
  · have hdi : (ds a)[i]? = some (ds a)[i] := List.getElem?_eq_getElem hlt
    obtain ⟨g1, g2⟩ := j1 _ hdi
    have hdr : (ds a).drop i = (ds a)[i] :: (ds a).drop (i + 1) := List.drop_eq_getElem_cons hlt
    rw [hdr] at hd
    simp only [forD] at hd
    refine .inr ⟨g1, fun σ2 H2 => ∃ b F2, Env C (SJ b ++ (Ts ++ Rs a)) (σ2 ++ (τ ++ us.map some)) F2 H2 ∧ forD (fun b d => (mg b d).bind (mB b d)) ((ds a).drop (i + 1)) b = r, fun σ2 H2 ⟨b2, F2, e2, h2⟩ => ⟨(ds a).length - (i + 1), by omega, b2, F2, rfl, hlt, e2, h2⟩, fun x H2 hy => ?_⟩
    obtain ⟨F2, E2, rx⟩ := g2 x H2 hy
    have E2' : Env C (SJ b ++ (Ts ++ Rs a)) (σ' ++ (τ ++ us.map some)) F2 H2 := by simpa only [List.append_assoc] using E2
    refine hg b _ C (Ts ++ Rs a) σ' (τ ++ us.map some) F2 H2 x _ hK hτ2 E2' rx (hal a b) (fun g hgo σ3 _ E3 => ?_) (fun eb => hb (by rw [← hd, bad_bind (bad_bind eb)]; rfl))
    rw [ok_bind hgo] at hd
    refine hB a b _ g C σ3 (τ ++ us.map some) F2 H2 _ hK hτ2 E3 (fun o ho => ?_) (fun x ex => hx x (by rw [← hd, exc_bind ex]; rfl)) (fun eb => hb (by rw [← hd, bad_bind eb]; rfl))
    rw [ok_bind ho] at hd
    cases o with
    | inl b' => exact ⟨fun σ4 F4 H4 E4 => ⟨b', F4, E4, hd⟩, fun σ4 F4 H4 E4 => ⟨b', F4, E4, hd⟩⟩
    | inr o =>
      subst hd
      cases o with
      | brk b' =>
        intro σ4 F4 H4 E4
        show CanB X rest D σ4 H4
        have E5 : Env C (SJ b' ++ Ts ++ Rs a) (σ4 ++ τ ++ us.map some) F4 H4 := by simpa only [List.append_assoc] using E4
        exact hR b' C σ4 τ F4 H4 D hK hτ (E5.pre (by simp [hlu])) hq hx hb
      | ret o =>
        have := hq (emb o) rfl
        rw [hl] at this
        obtain ⟨S0, R0, e0, hn⟩ := hs o
        show OutOk C _ _ _ (KE o)
        rw [e0] at this ⊢
        intro σ4 u F4 H4 E4
        have l4 : σ4.length = S0.length := by have := E4.len; simp at this hτ2; omega
        refine this σ4 u F4 H4 (Env.mid (L := S0 ++ Ts) (M := Rs a) (N := [R0]) (ρ := σ4 ++ τ) (μ := us.map some) (ν := [some u]) (by simp [l4, hτ]) (by simp [hlu]) (by simp [hn]) (by simpa only [List.append_assoc] using E4))
  · have e0 : i = (ds a).length := by omega
    subst e0
    rw [List.drop_length] at hd
    simp only [forD] at hd
    subst hd
    refine .inl ⟨j2 (Nat.le_refl _), ?_⟩
    show CanB X rest D σ' H'
    exact hR b C σ' τ F' H' D hK hτ (EJ.pre (by simp [hlu])) hq hx hb
end
end
end
end G
namespace G
open PySem PySem.Spec PyProof.Rows L2
/-! ## defs -/
abbrev XT (P : Program) (w : World) : CXT := L2.CX P w
/-- what a def keeps, called where no repr is under way -/
structure FnG (P : Program) (w : World) (K : PySem.W.Frag) (mg : Str → Option Value) (base : Heap) (k : Nat) (f : Addr) (fd : FuncData) (ps : List Str) (sp : Sp) : Prop where
  len : ∀ vs H Q E, sp vs H Q E → vs.length = ps.length
  run : ∀ (A : Around) (outer : List PySem.Env) (s : Shared) (H : Hp) (args : Args) (us : List Value) (vs : List V) (Q : VK) (E : XK), A.guards = some [] → Room k A → Env0 P w K mg base A outer s H → BindsTo s fd args (ps.zip us) → Vals vs us → sp vs H Q E →
    codeAny (model P w) A (.call (.ref f) args) (CR (XT P w) outer P w H s Q E) s
theorem FnG.mono {P w K mg base j k f fd ps sp} (h : FnG P w K mg base j f fd ps sp) (l : j ≤ k) : FnG P w K mg base k f fd ps sp :=
  ⟨h.len, fun A o s H a us vs Q E g r => h.run A o s H a us vs Q E g (r.mono l)⟩
/-- the context of a body -/
abbrev cxG (P : Program) (w : World) (K : PySem.W.Frag) (mg : Str → Option Value) (base : Heap) (N : List Str) (qual : Str) (sc : Scope) (f : Addr) (cd : Value) (A : Around) (outer : List PySem.Env) (s : Shared) (H : Hp) (E : XK) : Cx := cxOf (XT P w) P w K mg base N qual sc f cd A outer s H E
/-- a def as the top has made it, whatever its defaults -/
structure FnX (K : PySem.W.Frag) (x qual : Str) (st : Stmt) (f : Addr) (fd : FuncData) : Prop where
  ex : ∃ (oc : Value) (od : Option Addr) (dV kV doc pm : Value) (an : Option Addr) (cdv ct : Value) (osl : Array (Option Value)),
    fd = PySem.W.fnOf x qual (defArgs st) (defBody st) (defScope st) dV kV doc pm an cdv ct ∧ K.lookup f = some ⟨oc, od, .func fd, osl⟩ ∧ PySem.W.codeIn K cdv qual = true
theorem FnX.of {K : PySem.W.Frag} {x qual : Str} {st : Stmt} {f : Addr} {fd : FuncData} (F : Fun K x qual st f fd) : FnX K x qual st f fd := by
  obtain ⟨oc, od, kV, doc, pm, an, cdv, ct, osl, h⟩ := F.ex
  exact ⟨oc, od, .none, kV, doc, pm, an, cdv, ct, osl, h⟩
theorem FnX.ofD {K : PySem.W.Frag} {x qual : Str} {st : Stmt} {f : Addr} {fd : FuncData} {dvs : List V} {kws : List (Str × V)} (F : FunD K x qual (defArgs st) (defBody st) (defScope st) dvs kws f fd) : FnX K x qual st f fd := by
  obtain ⟨oc, od, dV, kV, doc, pm, an, cdv, ct, osl, h1, h2, h3, _⟩ := F.ex
  exact ⟨oc, od, dV, kV, doc, pm, an, cdv, ct, osl, h1, h2, h3⟩
theorem fnG_of {P : Program} {w : World} {K : PySem.W.Frag} {mg : Str → Option Value} {base : Heap} {x qual : Str} {st : Stmt} {f : Addr} {fd : FuncData} {N ps : List Str} {k : Nat} {sp : Sp} (Fn : FnX K x qual st f fd) (S : FnScope N ps (defScope st))
    (len : ∀ vs H Q E, sp vs H Q E → vs.length = ps.length)
    (hb : ∀ (cdv : Value) (A : Around) (outer : List PySem.Env) (s : Shared) (H : Hp) (vs : List V) (Q : VK) (E : XK), A.guards = some [] → Room k (A.deeper (envOfC qual (defScope st) s.heap.objs.size f cdv)) → sp vs H Q E →
      CanB (cxG P w K mg base N qual (defScope st) f cdv A outer s H E) (defBody st) { nx := fun _ H' => Q .non H', rt := Q } (start N vs) H) : FnG P w K mg base (k + 1) f fd ps sp := by
  obtain ⟨oc, od, dV, kV, doc, pm, an, cdv, ct, osl, rfl, lk, hcd⟩ := Fn.ex
  refine ⟨len, fun A outer s H args us vs Q E hg hr e0 bd r hsp => ?_⟩
  have hlen := len _ _ _ _ hsp
  have inK : K.In s.heap := e0.mod.kin.keeps fun b o q => (e0.bs b o q).1
  have nolim : s.heap.NoLimit := e0.mod.nolimit.keeps fun b o q => (e0.bs b o q).1
  have kinds : ∀ y ∈ ps.zip us, (defScope st).names.lookup y.1 = some .local ∨ ((defScope st).names.lookup y.1 = some .cell ∧ ((cellsFrom (s.heap.objs.size + 1) (defScope st).names []).lookup y.1).isSome = true) := by
    rintro ⟨n, v⟩ hy
    rcases S.par n (List.of_mem_zip hy).1 with q | q
    · left; exact q
    · right; exact ⟨q, PySem.W.cellsFrom_some _ _ _ (.inl q)⟩
  have step := codeAny_call_function (prog := P) (w := w) (A := A) (args := args) (R := CR (XT P w) outer P w H s Q E) hr.depth (inK _ _ lk) rfl S.co S.gen rfl (PySem.W.codeRec_of inK hcd)
  refine step (bd _ _ _ _ (wpAny_newFunctionEnv_cells S.kind kinds fun env he s1 ic => ?_))
  subst he
  refine ⟨nolim.keeps ic.toInCall.keep, codeAny_func ?_⟩
  obtain ⟨t, ht, hq⟩ := hb cdv A outer s H vs Q E hg (hr.deeper _) hsp
  have I := inv_start (CX := XT P w) (E := E) (f := f) (cd := cdv) (qual := qual) S hr.hd e0 hlen r ic
  have fin : ∀ {σ' : L2.St} {H' : Hp} {v : V} {u : Value} {s' : Shared}, L2.Inv (cxOf (XT P w) P w K mg base N qual (defScope st) f cdv A outer s H E) [] σ' H' s' → RelV v u → Q v H' → CE outer P w H s Q u s' :=
    fun {σ' H' v u s'} J rv q => ⟨v, H', J.os, J.bare, J.base, J.hok, rv, q⟩
  refine wpAny_mono (ht.run [] s1 (start N vs) H _ I hq) (fun fl s' hs => ?_) (fun _ _ hs => hs)
  cases fl with
  | ret u => obtain ⟨v, σ', H', J, rv, q⟩ := hs; exact fin J rv q
  | next => obtain ⟨σ', H', J, q⟩ := hs; exact fin (v := V.non) (u := Value.none) J rfl q
  | brk => obtain ⟨_, _, _, q⟩ := hs; exact q.elim
  | cont => obtain ⟨_, _, _, q⟩ := hs; exact q.elim
section
variable {X : Cx} {k : Nat} {f : Addr} {fd : FuncData} {ps : List Str} {sp : Sp} {dvs : List V} {dsv : List Value} {E : L2.St → XK} {x : Str} {p pos : Pos} {e : Expr} {es : List Expr} {t : TA}
theorem runG {pins : List (Addr × Obj)} {σ : L2.St} {H : Hp} {s : Shared} {Q : VK} {us : List Value} {vs : List V} (Fn : FnG X.prog X.w X.K X.mg X.base k f fd ps sp) (hg : X.A.guards = some []) (hr : Room k X.A) (hb : Binds X.K fd ps dsv) (hd : Vals dvs dsv) (hx : PassesAt (XT X.prog X.w) X σ (E σ))
    (I : L2.Inv X pins σ H s) (r : Vals vs us) (h : sp (vs ++ dvs) H Q (E σ)) : wpAny (model X.prog X.w) X.A (call (.ref f) us) (EP X pins σ Q) X.xe s := by
  have r2 : Vals (vs ++ dvs) (us ++ dsv) := r.append hd
  have hl : (us ++ dsv).length = ps.length := by rw [← r2.length]; exact Fn.len _ _ _ _ h
  have := Fn.run X.A X.stack s H ⟨us, []⟩ (us ++ dsv) (vs ++ dvs) Q (E σ) hg hr I.env0 (hb s us I.kIn hl) r2 h
  refine wpAny_call (codeAny_mono this ?_)
  intro r s' hq
  match r, hq with
  | .error e, hq => exact hx pins H s e s' I hq
  | .ok (.ret u), hq => exact I.after hq
  | .ok .next, hq => exact hq.elim
  | .ok .brk, hq => exact hq.elim
  | .ok .cont, hq => exact hq.elim
theorem pe_callG (Fn : FnG X.prog X.w X.K X.mg X.base k f fd ps sp) (hgd : X.A.guards = some []) (hr : Room k X.A) (hg : Gl X x) (hm : X.mg x = some (.ref f)) (hk : PySem.W.keepIn X.K (.ref f) = true) (hb : Binds X.K fd ps dsv) (hd : Vals dvs dsv) (hx : ∀ σ, PassesAt (XT X.prog X.w) X σ (E σ))
    (ha : PA X (e :: es) t) (hdb : (x == ("__debug__" : Str)) = false := by decide) (he : starEach (e :: es) X.env = (false, eval e X.env) :: starEach es X.env := by rfl) (hpl : (backTo pos (starEach es X.env)).any (·.1) = false := by rfl) :
    PE X (.Call (.Name x p) (e :: es) [] pos) (tCallSD sp dvs E t) := by
  constructor
  intro pins s σ H Q I h
  have q1 := ha.run pos pins s σ H _ I h
  exact wpAny_Call_Name_kw (ld_glob I hg hm (PySem.W.callWith_K (h₀ := X.base) I.ok.mod.kin hk (thn q1 fun us s1 ⟨vs, H1, I1, r, q⟩ => ⟨I1.kIn, runG Fn hgd hr hb hd (hx σ) I1 r q⟩) he hpl) hdb)
theorem pe_callG0 (Fn : FnG X.prog X.w X.K X.mg X.base k f fd ps sp) (hgd : X.A.guards = some []) (hr : Room k X.A) (hg : Gl X x) (hm : X.mg x = some (.ref f)) (hk : PySem.W.keepIn X.K (.ref f) = true) (hb : Binds X.K fd ps dsv) (hd : Vals dvs dsv) (hx : ∀ σ, PassesAt (XT X.prog X.w) X σ (E σ))
    (hdb : (x == ("__debug__" : Str)) = false := by decide) : PE X (.Call (.Name x p) [] [] pos) (tCallSD sp dvs E tNil) := by
  constructor
  intro pins s σ H Q I h
  exact wpAny_Call_Name_kw (ld_glob I hg hm (PySem.W.callWith_K0 I.kIn hk (runG (us := []) Fn hgd hr hb hd (hx σ) I .nil h)) hdb)
end
end G
namespace G
open PySem L2
/-! ## a def's promise: what its mirror says -/
def ioAt (vs : List V) (ios : List Nat) : List Addr := ios.filterMap fun i => match vs[i]? with
  | some (V.ref p) => some p
  | _ => none
theorem mem_io {vs : List V} {ios : List Nat} {p : Addr} : p ∈ ioAt vs ios ↔ ∃ i ∈ ios, vs[i]? = some (V.ref p) := by
  unfold ioAt
  rw [List.mem_filterMap]
  constructor
  · rintro ⟨i, hi, h⟩
    split at h
    · cases h; exact ⟨i, hi, by assumption⟩
    · cases h
  · rintro ⟨i, hi, h⟩
    exact ⟨i, hi, by rw [h]⟩
def ExM (K : PySem.W.Frag) (mg : Str → Option Value) (x : Exn) (cls : Value) (d : Option Addr) (H : Hp) : Prop :=
  mg x.name = some cls ∧ match x.fld with
    | none => d = none
    | some (f, v) => ∃ q u, d = some q ∧ H q = some (.xd [(f, u)]) ∧ Rp K (fun _ => none) u v
section
variable {α β : Type}
/-- S0: the arguments' slots; ios: those that are changed; S1: the arguments' slots behind; R: the answer -/
def spF (K : PySem.W.Frag) (mg : Str → Option Value) (n : Nat) (S0 : α → List Sl) (ios : List Nat) (m : α → Res β) (S1 : β → List Sl) (R : β → Sl) : Sp := fun vs H Q E =>
  ∃ (a : α) (F : Hp), (S0 a).length = n ∧ Env ⟨K, F, H, ioAt vs ios⟩ (S0 a) (vs.map some) F H ∧ m a ≠ .bad ∧
    (∀ b, m a = .ok b → ∀ u F' H', Env ⟨K, F, H, ioAt vs ios⟩ (S1 b ++ [R b]) (vs.map some ++ [some u]) F' H' → Q u H') ∧
    (∀ x, m a = .exc x → ∀ cls d F' H', Env ⟨K, F, H, ioAt vs ios⟩ [] [] F' H' → ExM K mg x cls d H' → E cls d H')
/-- places of an environment, taken over -/
theorem Env.sel {C : EC} {L L' : List Sl} {ρ ρ' : List (Option V)} {F H : Hp} (E : Env C L ρ F H) (f : Nat → Nat) (hf : ∀ i j, i < L'.length → j < L'.length → i ≠ j → f i ≠ f j) (hl : ρ'.length = L'.length)
    (h : ∀ (i : Nat) s, L'[i]? = some s → s = .un ∨ ∃ t, L[f i]? = some t ∧ W1 t s ∧ ρ'[i]? = ρ[f i]? ∧ noal s = true) : Env C L' ρ' F H := by
  have ow : ∀ (i : Nat) q d, L'[i]? = some (.ow q d) → ∃ q', L[f i]? = some (.ow q' d) ∧ ρ'[i]? = ρ[f i]? ∧ ∀ p, q = some p → q' = some p := fun i q d e => by
    rcases h i _ e with z | ⟨t, h1, h2, h3, _⟩
    · cases z
    · cases h2 with
      | rfl => exact ⟨q, h1, h3, fun _ z => z⟩
      | fo q' d => exact ⟨q', h1, h3, fun _ z => nomatch z⟩
  refine ⟨hl, E.sub, fun i d e => ?_, fun i q d e => ?_, fun i d e => ?_, fun i j e => ?_, fun i ds e => ?_, fun i j p q d q' d' hne e1 e2 e3 e4 => ?_, E.hold, E.gg, E.gn⟩
  · rcases h i _ e with z | ⟨t, h1, h2, h3, _⟩
    · cases z
    · cases h2 with
      | rfl => rw [h3]; exact E.va _ d h1
  · obtain ⟨q', h1, h3, h4⟩ := ow i q d e
    obtain ⟨p, o, a, b, c, t, g, z⟩ := E.ow _ q' d h1
    exact ⟨p, o, h3.trans a, b, c, t, g, fun p' e' => z p' (h4 p' e')⟩
  · rcases h i _ e with z | ⟨t, h1, h2, h3, _⟩
    · cases z
    · cases h2 with
      | rfl =>
        obtain ⟨x, a, b⟩ := E.rd _ d h1
        refine ⟨x, h3.trans a, b.imp id ?_⟩
        rintro ⟨p, o, e1, e2, e3, e4⟩
        refine ⟨p, o, e1, e2, e3, fun j q d' hj hj2 => ?_⟩
        obtain ⟨q', g1, g2, _⟩ := ow j q d' hj
        exact e4 (f j) q' d' g1 (g2.symm.trans hj2)
      | od q d =>
        obtain ⟨p, o, a, b, c, t, g, z⟩ := E.ow _ q d h1
        refine ⟨_, h3.trans a, .inr ⟨p, o, rfl, .inl b, t, fun j q2 d' hj hj2 => ?_⟩⟩
        obtain ⟨q', g1, g2, _⟩ := ow j q2 d' hj
        by_cases hij : i = j
        · subst hij; rw [e] at hj; cases hj
        · exact E.apart _ _ p q d q' d' (hf i j (lt_of_get e) (lt_of_get hj) hij) h1 g1 a (g2.symm.trans hj2)
      | vr d =>
        obtain ⟨x, a, b⟩ := E.va _ d h1
        exact ⟨x, h3.trans a, .inl b⟩
  · rcases h i _ e with z | ⟨t, h1, h2, h3, h4⟩
    · cases z
    · cases h4
  · rcases h i _ e with z | ⟨t, h1, h2, h3, _⟩
    · cases z
    · cases h2 with
      | rfl => rw [h3]; exact E.sc _ ds h1
  · obtain ⟨q1, g1, g2, _⟩ := ow i q d e1
    obtain ⟨q2, g3, g4, _⟩ := ow j q' d' e2
    exact E.apart _ _ p q1 d q2 d' (hf i j (lt_of_get e1) (lt_of_get e2) hne) g1 g3 (g2.symm.trans e3) (g4.symm.trans e4)
/-- an owned slot's address becomes known -/
def fixS (pa : Nat → Addr) (i : Nat) : Sl → Sl
  | .ow _ d => .ow (some (pa i)) d
  | s => s
def fixL (pa : Nat → Addr) : Nat → List Sl → List Sl
  | _, [] => []
  | i, s :: ss => fixS pa i s :: fixL pa (i + 1) ss
theorem fixL_len (pa : Nat → Addr) : ∀ (ss : List Sl) (i : Nat), (fixL pa i ss).length = ss.length
  | [], _ => rfl
  | s :: ss, i => by simp [fixL, fixL_len pa ss (i + 1)]
theorem fixL_get (pa : Nat → Addr) : ∀ (ss : List Sl) (i j : Nat), (fixL pa i ss)[j]? = ss[j]?.map (fixS pa (i + j))
  | [], _, _ => by simp [fixL]
  | s :: ss, i, 0 => by simp [fixL]
  | s :: ss, i, j + 1 => by
    simp only [fixL, List.getElem?_cons_succ]
    rw [fixL_get pa ss (i + 1) j]
    congr 2
    omega
variable {P : Program} {w : World} {K : PySem.W.Frag} {mg : Str → Option Value} {base : Heap} {x qual : Str} {st : Stmt} {f : Addr} {fd : FuncData} {N ps : List Str} {k : Nat}
/-- the slots at a body's start: the arguments', the owned ones at their addresses, then nothing -/
def bodyS (n : Nat) (pa : Nat → Addr) (S0 : List Sl) : List Sl := fixL pa 0 S0 ++ List.replicate n .un
def addrs (vs : List V) (i : Nat) : Addr := match vs[i]? with
  | some (V.ref p) => p
  | _ => 0
theorem Env.body {C : EC} {S0 : List Sl} {vs : List V} {F H : Hp} (E : Env C S0 (vs.map some) F H) (n : Nat) : Env C (bodyS n (addrs vs) S0) (vs.map some ++ List.replicate n none) F H := by
  have hl : vs.length = S0.length := by have := E.len; simpa using this
  have E1 : Env C (fixL (addrs vs) 0 S0) (vs.map some) F H := by
    have g : ∀ (i : Nat) s, (fixL (addrs vs) 0 S0)[i]? = some s → ∃ t, S0[i]? = some t ∧ s = fixS (addrs vs) i t := fun i s e => by
      rw [fixL_get] at e
      obtain ⟨t, h1, h2⟩ := Option.map_eq_some_iff.mp e
      exact ⟨t, h1, by rw [← h2]; simp⟩
    have ow : ∀ (i : Nat) q d, (fixL (addrs vs) 0 S0)[i]? = some (.ow q d) → ∃ q' p o, S0[i]? = some (.ow q' d) ∧ (vs.map some)[i]? = some (some (.ref p)) ∧ H p = some o ∧ F p = none ∧ Top C.K F o d ∧ (C.H0 p = none ∨ p ∈ C.io) ∧ ∀ p', q = some p' → p = p' := fun i q d e => by
      obtain ⟨t, h1, h2⟩ := g i _ e
      cases t with
      | ow q' d' =>
        obtain ⟨p, o, a, b, c, t', f', z⟩ := E.ow i q' d' h1
        have a' : vs[i]? = some (V.ref p) := by
          rw [List.getElem?_map] at a
          obtain ⟨y, h3, h4⟩ := Option.map_eq_some_iff.mp a
          cases h4; exact h3
        have ea : addrs vs i = p := by unfold addrs; rw [a']
        simp only [fixS, ea] at h2
        cases h2
        exact ⟨q', p, o, h1, a, b, c, t', f', fun p' e' => by cases e'; rfl⟩
      | _ => simp only [fixS] at h2; cases h2
    refine ⟨by rw [fixL_len]; exact E.len, E.sub, fun i d e => ?_, fun i q d e => ?_, fun i d e => ?_, fun i j e => ?_, fun i ds e => ?_, fun i j p q d q' d' hne e1 e2 e3 e4 => ?_, E.hold, E.gg, E.gn⟩
    · obtain ⟨t, h1, h2⟩ := g i _ e
      cases t <;> simp only [fixS] at h2 <;> first | (cases h2; exact E.va i d h1) | (split at h2 <;> cases h2) | cases h2
    · obtain ⟨q', p, o, h1, h2, h3⟩ := ow i q d e
      exact ⟨p, o, h2, h3⟩
    · obtain ⟨t, h1, h2⟩ := g i _ e
      have h2' : t = .rd d := by cases t <;> simp only [fixS] at h2 <;> first | (cases h2; rfl) | (split at h2 <;> cases h2) | cases h2
      subst h2'
      obtain ⟨y, a, b⟩ := E.rd i d h1
      refine ⟨y, a, b.imp id ?_⟩
      rintro ⟨p, o, e1, e2, e3, e4⟩
      refine ⟨p, o, e1, e2, e3, fun j q d' hj hj2 => ?_⟩
      obtain ⟨q', p', o', h3, _⟩ := ow j q d' hj
      exact e4 j q' d' h3 hj2
    · obtain ⟨t, h1, h2⟩ := g i _ e
      cases t <;> simp only [fixS] at h2 <;> first | (cases h2; exact E.al i j h1) | (split at h2 <;> cases h2) | cases h2
    · obtain ⟨t, h1, h2⟩ := g i _ e
      cases t <;> simp only [fixS] at h2 <;> first | (cases h2; exact E.sc i ds h1) | (split at h2 <;> cases h2) | cases h2
    · obtain ⟨q1, _, _, g1, _⟩ := ow i q d e1
      obtain ⟨q2, _, _, g2, _⟩ := ow j q' d' e2
      exact E.apart i j p q1 d q2 d' hne g1 g2 e3 e4
  induction n with
  | zero => simpa [bodyS] using E1
  | succ n ih =>
    have e1 : bodyS (n + 1) (addrs vs) S0 = bodyS n (addrs vs) S0 ++ [.un] := by unfold bodyS; rw [List.replicate_succ', ← List.append_assoc]
    have e2 : vs.map some ++ List.replicate (n + 1) (none : Option V) = vs.map some ++ List.replicate n none ++ [none] := by rw [List.replicate_succ', ← List.append_assoc]
    rw [e1, e2]
    refine ih.one (bodyS n (addrs vs) S0).length (by have := ih.len; simp at this ⊢; omega) ih.oldP (Le.refl F) ih.sub (fun i q d p o _ h1 h2 h3 => ?_) (fun _ _ _ _ _ _ _ h _ => h) (fun d' e => ?_) (fun q' d' e => ?_) (fun d' e => ?_) (fun j e => ?_) (fun ds e => ?_) (fun _ _ _ h => h) (fun _ _ _ _ h => h) (fun b h1 h2 => absurd h2 h1)
    · obtain ⟨p', o', a, b, c, _⟩ := ih.ow i q d h1
      rw [h2] at a; cases a
      exact ⟨h3, c⟩
    all_goals (rw [at_last] at e; cases e)
/-- a body that keeps what its mirror says -/
theorem fn_mir {S0 : α → List Sl} {ios : List Nat} {m : α → Res β} {S1 : β → List Sl} {R : β → Sl} {K0 : (Nat → Addr) → β → Out} {Sr : (Nat → Addr) → β → List Sl} (Fn : FnX K x qual st f fd) (S : FnScope N ps (defScope st)) (n : Nat) (hn : N.length = ps.length + n)
    (hb : ∀ (X : Cx) (a : α) (pa : Nat → Addr) (w0 : Wx), X.K = K → X.mg = mg → X.N = N → X.calm = true → X.A.guards = some [] → Room k X.A → (∃ cdv A outer s H E, X = cxG P w K mg base N qual (defScope st) f cdv A outer s H E) → Takes X w0.W → w0.S = List.replicate N.length .un →
      EvS X w0 (defBody st) (bodyS n pa (S0 a)) [] (m a) (K0 pa))
    (hK : ∀ pa b, K0 pa b = .rt (Sr pa b) (R b) ∨ (K0 pa b = .nx (Sr pa b) ∧ R b = .v .non))
    (hS : ∀ a pa b (i : Nat) s, (S1 b)[i]? = some s → s = .un ∨ ∃ q d d0, s = .ow q d ∧ (S0 a)[i]? = some (.ow none d0) ∧ (Sr pa b)[i]? = some (.ow (some (pa i)) d) ∧ q = none)
    (hS1 : ∀ b, (S1 b).length = ps.length) (hSr : ∀ pa b, ps.length ≤ (Sr pa b).length) (hR : ∀ b, noal (R b) = true) : FnG P w K mg base (k + 1) f fd ps (spF K mg ps.length S0 ios m S1 R) := by
  refine fnG_of Fn S (fun vs H Q E ⟨a, F, h1, h2, _⟩ => ?_) (fun cdv A outer s H vs Q E hg hr ⟨a, F, h1, h2, h3, h4, h5⟩ => ?_)
  · have := h2.len
    simp at this; omega
  · have hvl : vs.length = ps.length := by have := h2.len; simp at this; omega
    generalize hC : (⟨K, F, H, ioAt vs ios⟩ : EC) = C at h2 h4 h5
    have hCK : C.K = K := by rw [← hC]
    have key := hb (cxG P w K mg base N qual (defScope st) f cdv A outer s H E) a (addrs vs) ⟨fun cls d _ H => E cls d H, List.replicate N.length .un⟩ rfl rfl rfl rfl (by show (A.deeper _).guards = _; exact hg) hr ⟨cdv, A, outer, s, H, E, rfl⟩ (takes_of rfl rfl rfl rfl) rfl
    have Eb := h2.body n
    have hst : L2.start N vs = vs.map some ++ List.replicate n none := by unfold L2.start; rw [show N.length - vs.length = n by omega]
    have post : ∀ b, m a = .ok b → ∀ (σ : L2.St) u F' H', Env C (Sr (addrs vs) b ++ [R b]) (σ ++ [some u]) F' H' → Q u H' := fun b hm σ u F' H' E' => by
      refine h4 b hm u F' H' ?_
      have l1 : σ.length = (Sr (addrs vs) b).length := by have := E'.len; simpa using this
      have l2 := hS1 b
      refine E'.sel (fun i => if i < ps.length then i else (Sr (addrs vs) b).length) (fun i j hi hj hne => ?_) (by simp [hvl, l2]) (fun i s e => ?_)
      · simp only [List.length_append, List.length_cons, List.length_nil] at hi hj
        have := hSr (addrs vs) b
        show (if i < ps.length then i else _) ≠ (if j < ps.length then j else _)
        by_cases hi2 : i < ps.length <;> by_cases hj2 : j < ps.length
        · rw [if_pos hi2, if_pos hj2]; exact hne
        · rw [if_pos hi2, if_neg hj2]; omega
        · rw [if_neg hi2, if_pos hj2]; omega
        · omega
      · by_cases hi : i < ps.length
        · rw [at_left (by omega)] at e
          rcases hS a (addrs vs) b i s e with z | ⟨q, d, d0, rfl, h6, h7, h8⟩
          · exact .inl z
          · refine .inr ⟨.ow (some (addrs vs i)) d, ?_, ?_, ?_, rfl⟩
            · show (Sr (addrs vs) b ++ [R b])[if i < ps.length then i else _]? = _
              rw [if_pos hi, at_left (lt_of_get h7)]; exact h7
            · rw [h8]; exact .fo _ _
            · show _ = (σ ++ [some u])[if i < ps.length then i else _]?
              rw [if_pos hi, at_left (by simp; omega), at_left (by have := hSr (addrs vs) b; omega)]
              obtain ⟨p', o, a1, _, _, _, _, z⟩ := E'.ow i (some (addrs vs i)) d (by rw [at_left (lt_of_get h7)]; exact h7)
              rw [at_left (by have := hSr (addrs vs) b; omega)] at a1
              obtain ⟨p2, o2, a2, _⟩ := h2.ow i _ _ h6
              have ea : addrs vs i = p2 := by
                rw [List.getElem?_map] at a2
                obtain ⟨y, h9, h10⟩ := Option.map_eq_some_iff.mp a2
                cases h10
                unfold addrs; rw [h9]
              rw [a1, z _ rfl, a2, ea]
        · have hi3 : i = ps.length := by have := lt_of_get e; simp [l2] at this; omega
          subst hi3
          rw [← l2, at_last] at e
          cases e
          refine .inr ⟨R b, ?_, .rfl _, ?_, hR b⟩
          · show (Sr (addrs vs) b ++ [R b])[if _ < ps.length then _ else _]? = _
            rw [if_neg (by omega)]; exact at_last
          · show (vs.map some ++ [some u])[ps.length]? = (σ ++ [some u])[if _ < ps.length then _ else _]?
            rw [if_neg (by omega), ← l1, at_last, ← hvl]
            have := at_last (L := vs.map some) (x := some u)
            simpa using this
    refine key C _ [] F H _ hCK rfl (by rw [hst]; simpa using Eb) (fun b hm => ?_) (fun x hm σ' => ?_) h3
    · rcases hK (addrs vs) b with e | ⟨e, e2⟩
      · rw [e]
        intro σ u F' H' E'
        exact post b hm σ u F' H' (by simpa using E')
      · rw [e]
        intro σ F' H' E'
        refine post b hm σ .non F' H' ?_
        rw [e2]
        exact Env.pushV (by simpa using E') .non
    · intro cls d F' H' E' hx
      refine h5 x hm cls d F' H' ?_ hx
      exact Env.pre (L := []) (M := List.replicate N.length .un) (ρ := []) (π := σ') (by simpa using E'.len) (by simpa using E')
end
end G
namespace G
open PySem L2
theorem Env.uns {C : EC} {F H : Hp} (E : Env C [] [] F H) (n : Nat) (ρ : List (Option V)) (h : ρ.length = n) : Env C (List.replicate n .un) ρ F H := by
  have no : ∀ (i : Nat) s, (List.replicate n Sl.un)[i]? = some s → s = .un := fun i s e => (List.mem_replicate.mp (List.mem_of_getElem? e)).2
  refine ⟨by simp [h], E.sub, fun i d e => ?_, fun i q d e => ?_, fun i d e => ?_, fun i j e => ?_, fun i ds e => ?_, fun i j p q d q' d' _ e _ _ _ => ?_, E.hold, E.gg, E.gn⟩
  all_goals (cases no i _ e)
inductive Arg1 (L : List Sl) : Sl → Sl → Prop
  | v (d) : Arg1 L (.v d) (.v d)
  | vr (d) : Arg1 L (.v d) (.rd d)
  | owr (q d) : Arg1 L (.ow q d) (.rd d)
  | ar (i d) : vw L (.al i) = some d → Arg1 L (.al i) (.rd d)
  | ai (i q d) : L[i]? = some (.ow q d) → Arg1 L (.al i) (.ow none d)
  | asc (i ds) : L[i]? = some (.sc ds) → Arg1 L (.al i) (.sc ds)
  | un (s) : Arg1 L s .un
inductive ArgL (L : List Sl) : List Sl → List Sl → Prop
  | nil : ArgL L [] []
  | cons {s t ss ts} : Arg1 L s t → ArgL L ss ts → ArgL L (s :: ss) (t :: ts)
theorem ArgL.len {L : List Sl} : ∀ {ss ts : List Sl}, ArgL L ss ts → ss.length = ts.length
  | _, _, .nil => rfl
  | _, _, .cons _ t => by simp [ArgL.len t]
theorem ArgL.get {L : List Sl} : ∀ {ss ts : List Sl} {i : Nat} {t : Sl}, ArgL L ss ts → ts[i]? = some t → ∃ s, ss[i]? = some s ∧ Arg1 L s t
  | _, _, _, _, .nil, e => by simp at e
  | _, _, 0, _, .cons r _, e => by simp at e; subst e; exact ⟨_, rfl, r⟩
  | _, _, i + 1, _, .cons _ t, e => by
    obtain ⟨v, h1, h2⟩ := ArgL.get (i := i) t (by simpa using e)
    exact ⟨v, by simpa using h1, h2⟩
/-- the changed arguments are names, each told once -/
def isAl (Rs : List Sl) (k i : Nat) : Bool := match Rs[k]? with
  | some (.al j) => j == i
  | _ => false
def okIo (L Rs S0 : List Sl) (ios : List Nat) : Bool :=
  (ios.all fun k => match Rs[k]? with
    | some (.al i) => (match L[i]? with | some (.ow _ _) => true | _ => false) && (List.range Rs.length).all fun j => j == k || !isAl Rs j i
    | _ => false) && (List.range S0.length).all fun k => match S0[k]? with
      | some (.ow _ _) => ios.contains k
      | _ => true
def newS (L S1 : List Sl) (k i : Nat) : Sl := match L[i]?, S1[k]? with
  | some (.ow q _), some (.ow _ d) => .ow q d
  | _, _ => .un
def backL (L Rs S1 : List Sl) : List Nat → List Sl
  | [] => L
  | k :: ks => match Rs[k]? with
    | some (.al i) => (backL L Rs S1 ks).set i (newS L S1 k i)
    | _ => backL L Rs S1 ks
theorem backL_len {L Rs S1 : List Sl} : ∀ ios, (backL L Rs S1 ios).length = L.length
  | [] => rfl
  | k :: ks => by
    simp only [backL]
    split
    · rw [List.length_set]; exact backL_len ks
    · exact backL_len ks
theorem backL_get {L Rs S1 : List Sl} {i : Nat} {s : Sl} : ∀ ios, (backL L Rs S1 ios)[i]? = some s → (L[i]? = some s ∧ ∀ k ∈ ios, Rs[k]? ≠ some (.al i)) ∨ s = .un ∨ ∃ k q d0 q' d', k ∈ ios ∧ Rs[k]? = some (.al i) ∧ L[i]? = some (.ow q d0) ∧ S1[k]? = some (.ow q' d') ∧ s = .ow q d'
  | [], h => .inl ⟨h, fun _ hk => nomatch hk⟩
  | k :: ks, h => by
    simp only [backL] at h
    split at h
    · rename_i j hj
      by_cases hij : j = i
      · subst hij
        have hl : j < (backL L Rs S1 ks).length := by have := lt_of_get h; simpa using this
        rw [List.getElem?_set_self hl] at h
        cases h
        unfold newS
        split
        · rename_i q d0 q' d' h1 h2
          exact .inr (.inr ⟨k, q, d0, q', d', List.mem_cons_self, hj, h1, h2, rfl⟩)
        · exact .inr (.inl rfl)
      · rw [List.getElem?_set_ne hij] at h
        rcases backL_get ks h with ⟨a, b⟩ | a | ⟨k', q, d0, q', d', a, b⟩
        · refine .inl ⟨a, fun k' hk' => ?_⟩
          rcases List.mem_cons.mp hk' with e | e
          · subst e; rw [hj]; intro z; cases z; exact hij rfl
          · exact b k' e
        · exact .inr (.inl a)
        · exact .inr (.inr ⟨k', q, d0, q', d', List.mem_cons_of_mem _ a, b⟩)
    · rename_i hj
      rcases backL_get ks h with ⟨a, b⟩ | a | ⟨k', q, d0, q', d', a, b⟩
      · refine .inl ⟨a, fun k' hk' => ?_⟩
        rcases List.mem_cons.mp hk' with e | e
        · subst e; exact fun z => hj i z
        · exact b k' e
      · exact .inr (.inl a)
      · exact .inr (.inr ⟨k', q, d0, q', d', List.mem_cons_of_mem _ a, b⟩)
section
variable {C : EC} {L Ts Rs S0 : List Sl} {ios : List Nat} {ρ : List (Option V)} {us : List V} {F H : Hp}
structure OkIo (L Rs S0 : List Sl) (ios : List Nat) : Prop where
  own : ∀ k ∈ ios, ∃ i q d, Rs[k]? = some (.al i) ∧ L[i]? = some (.ow q d)
  one : ∀ k ∈ ios, ∀ i j, Rs[k]? = some (.al i) → Rs[j]? = some (.al i) → j = k
  all : ∀ (k : Nat) q d, S0[k]? = some (.ow q d) → k ∈ ios
theorem OkIo.of (h : okIo L Rs S0 ios = true) : OkIo L Rs S0 ios := by
  unfold okIo at h
  rw [Bool.and_eq_true, List.all_eq_true, List.all_eq_true] at h
  refine ⟨fun k hk => ?_, fun k hk i j h1 h2 => ?_, fun k q d hk => ?_⟩
  · have := h.1 k hk
    split at this
    · rename_i i hi
      rw [Bool.and_eq_true] at this
      have t1 := this.1
      split at t1
      · exact ⟨i, _, _, hi, by assumption⟩
      · cases t1
    · cases this
  · have := h.1 k hk
    rw [h1] at this
    simp only [Bool.and_eq_true, List.all_eq_true] at this
    have t2 := this.2 j (List.mem_range.mpr (lt_of_get h2))
    unfold isAl at t2
    rw [h2] at t2
    simpa using t2
  · have := h.2 k (List.mem_range.mpr (lt_of_get hk))
    rw [hk] at this
    simpa using this
/-- what a callee is given -/
theorem Env.give (E : Env C (L ++ Ts ++ Rs) (ρ ++ us.map some) F H) (hl : us.length = Rs.length) (ha : ArgL L Rs S0) (ok : OkIo L Rs S0 ios) : Env ⟨C.K, F, H, ioAt us ios⟩ S0 (us.map some) F H := by
  have hρ : ρ.length = (L ++ Ts).length := by have := E.len; simp [hl] at this ⊢; omega
  have at_ : ∀ {k : Nat} {s : Sl}, Rs[k]? = some s → (L ++ Ts ++ Rs)[(L ++ Ts).length + k]? = some s := fun {k s} h => by
    rw [List.getElem?_append_right (by omega)]; simpa using h
  have atu : ∀ (k : Nat), (ρ ++ us.map some)[(L ++ Ts).length + k]? = (us.map some)[k]? := fun k => by
    rw [List.getElem?_append_right (by omega)]; congr 1; omega
  have inL : ∀ {i : Nat} {s : Sl}, L[i]? = some s → (L ++ Ts ++ Rs)[i]? = some s := fun {i s} h => by rw [List.append_assoc, at_left (lt_of_get h)]; exact h
  have va : ∀ (k : Nat) d, Rs[k]? = some (.v d) → ∃ x, (us.map some)[k]? = some (some x) ∧ Rp C.K F x d := fun k d h => by
    obtain ⟨x, a, b⟩ := E.va _ d (at_ h)
    rw [atu] at a
    exact ⟨x, a, b⟩
  have al : ∀ (k i : Nat), Rs[k]? = some (.al i) → ∃ x, (us.map some)[k]? = some (some x) ∧ (ρ ++ us.map some)[i]? = some (some x) := fun k i h => by
    obtain ⟨_, x, a, b⟩ := E.al _ i (at_ h)
    rw [atu] at a
    exact ⟨x, a, b⟩
  have io : ∀ (k i : Nat) q d, Rs[k]? = some (.al i) → L[i]? = some (.ow q d) → ∃ p o, (us.map some)[k]? = some (some (V.ref p)) ∧ (ρ ++ us.map some)[i]? = some (some (V.ref p)) ∧ H p = some o ∧ F p = none ∧ Top C.K F o d := fun k i q d h1 h2 => by
    obtain ⟨x, a, b⟩ := al k i h1
    obtain ⟨p, o, c, e, g, t, _⟩ := E.ow i q d (inL h2)
    rw [b] at c; cases c
    exact ⟨p, o, a, b, e, g, t⟩
  have owP : ∀ (k : Nat) q d, S0[k]? = some (.ow q d) → ∃ i q', Rs[k]? = some (.al i) ∧ L[i]? = some (.ow q' d) ∧ q = none := fun k q d h => by
    obtain ⟨s, h1, h2⟩ := ha.get h
    cases h2 with
    | ai i q' d h3 => exact ⟨i, q', h1, h3, rfl⟩
  refine ⟨by simp [hl, ha.len], E.sub, fun k d h => ?_, fun k q d h => ?_, fun k d h => ?_, fun k j h => ?_, fun k ds h => ?_, fun k k' p q d q' d' hne h1 h2 h3 h4 => ?_, fun _ _ e _ => e, ⟨Le.refl F, E.gg.2⟩, fun b hb => .inl hb⟩
  · obtain ⟨s, h1, h2⟩ := ha.get h
    cases h2 with
    | v d => exact va k d h1
  · obtain ⟨i, q', h1, h2, rfl⟩ := owP k q d h
    obtain ⟨p, o, a, b, c, e, t⟩ := io k i q' d h1 h2
    refine ⟨p, o, a, c, e, t, .inr ?_, fun _ z => nomatch z⟩
    refine mem_io.mpr ⟨k, ok.all k _ _ h, ?_⟩
    rw [List.getElem?_map] at a
    obtain ⟨y, h3, h4⟩ := Option.map_eq_some_iff.mp a
    cases h4; exact h3
  · obtain ⟨s, h1, h2⟩ := ha.get h
    cases h2 with
    | vr d =>
      obtain ⟨x, a, b⟩ := va k d h1
      exact ⟨x, a, .inl b⟩
    | owr q d =>
      obtain ⟨p, o, a, b, c, t, _⟩ := E.ow _ q d (at_ h1)
      rw [atu] at a
      refine ⟨_, a, .inr ⟨p, o, rfl, .inl b, t, fun j q2 d2 hj hj2 => ?_⟩⟩
      obtain ⟨i, q', g1, g2, _⟩ := owP j q2 d2 hj
      obtain ⟨p', o', g3, g4, _⟩ := io j i q' d2 g1 g2
      rw [hj2] at g3; cases g3
      have hi := lt_of_get g2
      exact E.apart i ((L ++ Ts).length + k) _ _ _ _ _ (by simp; omega) (inL g2) (at_ h1) g4 (by rw [atu]; exact a)
    | ar i d hv =>
      obtain ⟨x, a, b⟩ := al k i h1
      have hk : ∃ t, L[i]? = some t ∧ (t = .v d ∨ (∃ q, t = .ow q d) ∨ t = .rd d) := by
        simp only [vw] at hv
        split at hv
        · cases hv; exact ⟨_, by assumption, .inl rfl⟩
        · cases hv; exact ⟨_, by assumption, .inr (.inl ⟨_, rfl⟩)⟩
        · cases hv; exact ⟨_, by assumption, .inr (.inr rfl)⟩
        · cases hv
      obtain ⟨t, ht, hc⟩ := hk
      have ap : ∀ (j : Nat) q2 d2 p, x = V.ref p → S0[j]? = some (.ow q2 d2) → (us.map some)[j]? = some (some (V.ref p)) → (∀ (i' : Nat) q' d', (L ++ Ts ++ Rs)[i']? = some (.ow q' d') → i' ≠ i → (ρ ++ us.map some)[i']? = some (some (V.ref p)) → False) → (∃ q, t = .ow q d) → False := fun j q2 d2 p hx hj hj2 hap hq => by
        obtain ⟨i', q', g1, g2, _⟩ := owP j q2 d2 hj
        obtain ⟨p', o', g3, g4, _⟩ := io j i' q' d2 g1 g2
        rw [hj2] at g3; cases g3
        by_cases hii : i' = i
        · subst hii
          have e1 := ok.one j (ok.all j _ _ hj) i' k g1 h1
          subst e1
          rw [h] at hj; cases hj
        · exact hap i' q' d2 (inL g2) hii g4
      rcases hc with rfl | ⟨q, rfl⟩ | rfl
      · obtain ⟨y, c, e⟩ := E.va i d (inL ht)
        rw [b] at c; cases c
        exact ⟨x, a, .inl e⟩
      · obtain ⟨p, o, c, e, g, t', _⟩ := E.ow i q d (inL ht)
        rw [b] at c; cases c
        exact ⟨_, a, .inr ⟨p, o, rfl, .inl e, t', fun j q2 d2 hj hj2 => ap j q2 d2 p rfl hj hj2 (fun i' q' d' z1 z2 z3 => E.apart i' i p q' d' q d z2 z1 (inL ht) z3 b) ⟨q, rfl⟩⟩⟩
      · obtain ⟨y, c, e⟩ := E.rd i d (inL ht)
        rw [b] at c; cases c
        refine ⟨x, a, e.imp id ?_⟩
        rintro ⟨p, o, rfl, e2, e3, e4⟩
        refine ⟨p, o, rfl, e2, e3, fun j q2 d2 hj hj2 => ?_⟩
        obtain ⟨i', q', g1, g2, _⟩ := owP j q2 d2 hj
        obtain ⟨p', o', g3, g4, _⟩ := io j i' q' d2 g1 g2
        rw [hj2] at g3; cases g3
        exact e4 i' q' d2 (inL g2) g4
  · obtain ⟨s, h1, h2⟩ := ha.get h
    cases h2
  · obtain ⟨s, h1, h2⟩ := ha.get h
    cases h2 with
    | asc i ds h3 =>
      obtain ⟨x, a, b⟩ := al k i h1
      obtain ⟨p, xs, c, e⟩ := E.sc i ds (inL h3)
      rw [b] at c; cases c
      exact ⟨p, xs, a, e⟩
  · obtain ⟨i, q1, g1, g2, _⟩ := owP k q d h1
    obtain ⟨j, q2, g3, g4, _⟩ := owP k' q' d' h2
    obtain ⟨p1, o1, g5, g6, _⟩ := io k i q1 d g1 g2
    obtain ⟨p2, o2, g7, g8, _⟩ := io k' j q2 d' g3 g4
    rw [h3] at g5; cases g5
    rw [h4] at g7; cases g7
    by_cases hij : i = j
    · subst hij
      exact hne (ok.one k' (ok.all k' _ _ h2) i k g3 g1)
    · exact E.apart i j p q1 d q2 d' hij (inL g2) (inL g4) g6 g8
/-- behind the call -/
theorem Env.take {S1 : List Sl} {R : Sl} {u : V} {F' H' : Hp} (E : Env C (L ++ Ts ++ Rs) (ρ ++ us.map some) F H) (hl : us.length = Rs.length) (ok : OkIo L Rs S0 ios) (hR : noal R = true ∧ nosc R = true ∧ ∀ d, R ≠ .rd d)
    (E2 : Env ⟨C.K, F, H, ioAt us ios⟩ (S1 ++ [R]) (us.map some ++ [some u]) F' H') : Env C (backL L Rs S1 ios ++ Ts ++ [R]) (ρ ++ [some u]) F' H' := by
  have hρ : ρ.length = (L ++ Ts).length := by have := E.len; simp [hl] at this ⊢; omega
  have hS1 : us.length = S1.length := by have := E2.len; simpa using this
  have hlb : (backL L Rs S1 ios ++ Ts).length = (L ++ Ts).length := by simp [backL_len]
  have at_ : ∀ {k : Nat} {s : Sl}, Rs[k]? = some s → (L ++ Ts ++ Rs)[(L ++ Ts).length + k]? = some s := fun {k s} h => by
    rw [List.getElem?_append_right (by omega)]; simpa using h
  have atu : ∀ (k : Nat), (ρ ++ us.map some)[(L ++ Ts).length + k]? = (us.map some)[k]? := fun k => by
    rw [List.getElem?_append_right (by omega)]; congr 1; omega
  have inL : ∀ {i : Nat} {s : Sl}, L[i]? = some s → (L ++ Ts ++ Rs)[i]? = some s := fun {i s} h => by rw [List.append_assoc, at_left (lt_of_get h)]; exact h
  have uget : ∀ {k : Nat} {x : V}, (us.map some)[k]? = some (some x) → us[k]? = some x := fun {k x} a => by
    rw [List.getElem?_map] at a
    obtain ⟨y, h3, h4⟩ := Option.map_eq_some_iff.mp a
    cases h4; exact h3
  -- who owns the changed ones
  have owner : ∀ b, b ∈ ioAt us ios → ∃ k ∈ ios, ∃ i q d, Rs[k]? = some (.al i) ∧ L[i]? = some (.ow q d) ∧ (ρ ++ us.map some)[i]? = some (some (V.ref b)) ∧ us[k]? = some (V.ref b) := fun b hb => by
    obtain ⟨k, hk, e⟩ := mem_io.mp hb
    obtain ⟨i, q, d, h1, h2⟩ := ok.own k hk
    obtain ⟨_, x, a, c⟩ := E.al _ i (at_ h1)
    rw [atu] at a
    have := uget a
    rw [e] at this; cases this
    exact ⟨k, hk, i, q, d, h1, h2, c, e⟩
  have hF : Le F F' := E2.gg.1
  have kp : ∀ b o, H b = some o → b ∉ ioAt us ios → H' b = some o := E2.hold
  have kf : ∀ b o, H b = some o → F b = none → b ∉ ioAt us ios → F' b = none := fun b o h1 h2 h3 => by
    cases e : F' b with
    | none => rfl
    | some z =>
      rcases E2.gn b (by rw [e]; simp) with g | g | g
      · exact absurd h2 g
      · have g' : H b = none := g
        rw [h1] at g'; cases g'
      · exact absurd g h3
  -- the old places
  have old : ∀ (i : Nat) s, (backL L Rs S1 ios ++ Ts)[i]? = some s → ((L ++ Ts ++ Rs)[i]? = some s ∧ ((ρ ++ [some u])[i]? = (ρ ++ us.map some)[i]?) ∧ ∀ k ∈ ios, Rs[k]? ≠ some (.al i)) ∨ s = .un ∨ ∃ k q d0 q' d', k ∈ ios ∧ Rs[k]? = some (.al i) ∧ L[i]? = some (.ow q d0) ∧ S1[k]? = some (.ow q' d') ∧ s = .ow q d' := fun i s h => by
    have hi := lt_of_get h
    have hρi : (ρ ++ [some u])[i]? = (ρ ++ us.map some)[i]? := by rw [at_left (by omega), at_left (by omega)]
    by_cases hiL : i < L.length
    · rw [at_left (by rw [backL_len]; exact hiL)] at h
      rcases backL_get ios h with ⟨a, b⟩ | a | a
      · exact .inl ⟨inL a, hρi, b⟩
      · exact .inr (.inl a)
      · exact .inr (.inr a)
    · refine .inl ⟨?_, hρi, fun k hk e => ?_⟩
      · rw [List.getElem?_append_right (by rw [backL_len]; omega), backL_len] at h
        rw [at_left (by omega), List.getElem?_append_right (by omega)]
        exact h
      · obtain ⟨j, q, d, h1, h2⟩ := ok.own k hk
        rw [e] at h1; cases h1
        exact hiL (lt_of_get h2)
  have inB : ∀ {i : Nat} {s : Sl}, (backL L Rs S1 ios ++ Ts ++ [R])[i]? = some s → i ≠ (L ++ Ts).length → (backL L Rs S1 ios ++ Ts)[i]? = some s := fun {i s} h hi => nmem_last (by rw [hlb]; exact hi) h
  have lastB : (backL L Rs S1 ios ++ Ts ++ [R])[(L ++ Ts).length]? = some R := by rw [← hlb]; exact at_last
  have lastU : (ρ ++ [some u])[(L ++ Ts).length]? = some (some u) := by rw [← hρ]; exact at_last
  have lastS : (S1 ++ [R])[us.length]? = some R := by rw [hS1]; exact at_last
  have lastV : (us.map some ++ [some u])[us.length]? = some (some u) := by
    have := at_last (L := us.map some) (x := some u)
    simpa using this
  have inS : ∀ {k : Nat} {s : Sl}, S1[k]? = some s → (S1 ++ [R])[k]? = some s := fun h => by rw [at_left (lt_of_get h)]; exact h
  have inU : ∀ {k : Nat}, k < us.length → (us.map some ++ [some u])[k]? = (us.map some)[k]? := fun h => by rw [at_left (by simpa using h)]
  -- an owned place
  have owB : ∀ (i : Nat) q d, (backL L Rs S1 ios ++ Ts)[i]? = some (.ow q d) → (∃ p o, (L ++ Ts ++ Rs)[i]? = some (.ow q d) ∧ (ρ ++ [some u])[i]? = some (some (V.ref p)) ∧ (ρ ++ us.map some)[i]? = some (some (V.ref p)) ∧ H p = some o ∧ H' p = some o ∧ F' p = none ∧ Top C.K F o d ∧ p ∉ ioAt us ios ∧ (C.H0 p = none ∨ p ∈ C.io) ∧ ∀ p', q = some p' → p = p') ∨
      ∃ k d0 q' p o, k ∈ ios ∧ Rs[k]? = some (.al i) ∧ L[i]? = some (.ow q d0) ∧ S1[k]? = some (.ow q' d) ∧ (ρ ++ [some u])[i]? = some (some (V.ref p)) ∧ (ρ ++ us.map some)[i]? = some (some (V.ref p)) ∧ us[k]? = some (V.ref p) ∧ H' p = some o ∧ F' p = none ∧ Top C.K F' o d ∧ (C.H0 p = none ∨ p ∈ C.io) ∧ ∀ p', q = some p' → p = p' := fun i q d h => by
    rcases old i _ h with ⟨h1, h2, h3⟩ | h1 | ⟨k, q1, d0, q', d', hk, h1, h2, h3, h4⟩
    · obtain ⟨p, o, a, b, c, t, f, g⟩ := E.ow i q d h1
      have nio : p ∉ ioAt us ios := fun z => by
        obtain ⟨k, hk, j, q1, d1, g1, g2, g3, g4⟩ := owner p z
        by_cases hij : i = j
        · subst hij; exact h3 k hk g1
        · exact E.apart i j p q d q1 d1 hij h1 (inL g2) a g3
      exact .inl ⟨p, o, h1, h2.trans a, a, b, kp p o b nio, kf p o b c nio, t, nio, f, g⟩
    · cases h1
    · cases h4
      obtain ⟨p, o, a, b, c, t, f, g⟩ := E.ow i q d0 (inL h2)
      obtain ⟨_, x, e1, e2⟩ := E.al _ i (at_ h1)
      rw [atu] at e1
      rw [a] at e2; cases e2
      have e3 := uget e1
      obtain ⟨p', o', a', b', c', t', _, _⟩ := E2.ow k q' d (inS h3)
      rw [inU (lt_of_get e3), e1] at a'; cases a'
      have hi := lt_of_get h2
      exact .inr ⟨k, d0, q', p, o', hk, h1, h2, h3, by rw [at_left (by simp at hρ; omega)]; rw [at_left (by simp at hρ; omega)] at a; exact a, a, e3, b', c', t', f, g⟩
  refine ⟨by simp [hρ, backL_len]; omega, E2.sub, fun i d h => ?_, fun i q d h => ?_, fun i d h => ?_, fun i j h => ?_, fun i ds h => ?_, fun i j p q d q' d' hne h1 h2 h3 h4 => ?_, fun b o e n => ?_, ⟨E.gg.1.trans hF, E2.gg.2⟩, fun b hb => ?_⟩
  · by_cases hi : i = (L ++ Ts).length
    · subst hi; rw [lastB] at h; cases h
      obtain ⟨x, a, b⟩ := E2.va _ d lastS
      rw [lastV] at a; cases a
      exact ⟨u, lastU, b⟩
    · rcases old i _ (inB h hi) with ⟨h1, h2, _⟩ | h1 | ⟨k, q1, d0, q', d', hk, h1, h2, h3, h4⟩
      · obtain ⟨x, a, b⟩ := E.va i d h1
        exact ⟨x, h2.trans a, Rp.mono hF _ _ b⟩
      · cases h1
      · cases h4
  · by_cases hi : i = (L ++ Ts).length
    · subst hi; rw [lastB] at h; cases h
      obtain ⟨p, o, a, b, c, t, f, g⟩ := E2.ow _ q d lastS
      rw [lastV] at a; cases a
      refine ⟨p, o, lastU, b, c, t, ?_, g⟩
      rcases f with f | f
      · have f' : H p = none := f
        by_cases hm : p ∈ C.io
        · exact .inr hm
        · cases e : C.H0 p with
          | none => exact .inl rfl
          | some z => rw [E.hold p z e hm] at f'; cases f'
      · obtain ⟨k, hk, j, q1, d1, g1, g2, g3, g4⟩ := owner p f
        obtain ⟨p', o', a', _, _, _, f', _⟩ := E.ow j q1 d1 (inL g2)
        rw [g3] at a'; cases a'
        exact f'
    · rcases owB i q d (inB h hi) with ⟨p, o, _, h2, _, _, h4, h5, h6, _, h7, h8⟩ | ⟨k, d0, q', p, o, _, _, _, _, h2, _, _, h4, h5, h6, h7, h8⟩
      · exact ⟨p, o, h2, h4, h5, h6.mono hF, h7, h8⟩
      · exact ⟨p, o, h2, h4, h5, h6, h7, h8⟩
  · by_cases hi : i = (L ++ Ts).length
    · subst hi; rw [lastB] at h; cases h
      exact (hR.2.2 _ rfl).elim
    · rcases old i _ (inB h hi) with ⟨h1, h2, _⟩ | h1 | ⟨k, q1, d0, q', d', hk, h1, h2, h3, h4⟩
      · obtain ⟨x, a, b⟩ := E.rd i d h1
        refine ⟨x, h2.trans a, ?_⟩
        rcases b with b | ⟨p, o, rfl, e2, e3, e4⟩
        · exact .inl (Rp.mono hF _ _ b)
        · have nio : p ∉ ioAt us ios := fun z => by
            obtain ⟨k, hk, j, q1, d1, g1, g2, g3, g4⟩ := owner p z
            exact e4 j q1 d1 (inL g2) g3
          have r' : Rd H' p o := by
            rcases e2 with e2 | ⟨ob, e2⟩
            · exact .inl (kp p _ e2 nio)
            · exact .inr ⟨ob, kp p _ e2 nio⟩
          refine .inr ⟨p, o, rfl, r', e3.mono hF, fun j q2 d2 hj hj2 => ?_⟩
          by_cases hjl : j = (L ++ Ts).length
          · subst hjl
            rw [lastB] at hj; cases hj
            rw [lastU] at hj2; cases hj2
            obtain ⟨p2, o2, a2, _, _, _, f2, _⟩ := E2.ow _ q2 d2 lastS
            rw [lastV] at a2; cases a2
            rcases f2 with f2 | f2
            · exact Rd.ne_none e2 f2
            · exact nio f2
          · rcases owB j q2 d2 (inB hj hjl) with ⟨p2, o2, g1, g2, g3, _⟩ | ⟨k, d0, q', p2, o2, _, _, g1, _, g2, g3, _⟩
            · rw [hj2] at g2; cases g2
              exact e4 j q2 d2 g1 g3
            · rw [hj2] at g2; cases g2
              exact e4 j q2 d0 (inL g1) g3
      · cases h1
      · cases h4
  · by_cases hi : i = (L ++ Ts).length
    · subst hi; rw [lastB] at h; cases h
      exact absurd hR.1 (by simp [noal])
    · rcases old i _ (inB h hi) with ⟨h1, h2, _⟩ | h1 | ⟨k, q1, d0, q', d', hk, h1, h2, h3, h4⟩
      · obtain ⟨a, x, b, c⟩ := E.al i j h1
        refine ⟨a, x, h2.trans b, ?_⟩
        have hi' := lt_of_get (inB h hi)
        rw [at_left (by omega)]
        rw [at_left (by omega)] at c
        exact c
      · cases h1
      · cases h4
  · by_cases hi : i = (L ++ Ts).length
    · subst hi; rw [lastB] at h; cases h
      exact absurd hR.2.1 (by simp [nosc])
    · rcases old i _ (inB h hi) with ⟨h1, h2, _⟩ | h1 | ⟨k, q1, d0, q', d', hk, h1, h2, h3, h4⟩
      · obtain ⟨p, xs, a, b, c⟩ := E.sc i ds h1
        refine ⟨p, xs, h2.trans a, ?_, RpL.mono hF _ _ c⟩
        rcases b with ⟨ob, b⟩ | b
        · refine .inl ⟨ob, kp p _ b fun z => ?_⟩
          obtain ⟨k, hk, j, q1, d1, g1, g2, g3, g4⟩ := owner p z
          obtain ⟨p', o', a', b', _, t', _⟩ := E.ow j q1 d1 (inL g2)
          rw [g3] at a'; cases a'
          rw [b] at b'; cases b'
          exact t'.mut.elim
        · exact .inr b
      · cases h1
      · cases h4
  · have lastOld : ∀ (j : Nat) q1 d1 q2 d2, R = .ow q1 d1 → u = V.ref p → j ≠ (L ++ Ts).length → (backL L Rs S1 ios ++ Ts ++ [R])[j]? = some (.ow q2 d2) → (ρ ++ [some u])[j]? = some (some (V.ref p)) → False := fun j q1 d1 q2 d2 hR1 hu hj g1 g2 => by
      subst hR1 hu
      obtain ⟨p2, o2, a2, _, _, _, f2, _⟩ := E2.ow _ q1 d1 lastS
      rw [lastV] at a2; cases a2
      rcases owB j q2 d2 (inB g1 hj) with ⟨p3, o3, _, e2, _, e3, _, _, _, e4, _⟩ | ⟨k, d0, q', p3, o3, hk, _, _, e1, e2, _, e3, _⟩
      · rw [g2] at e2; cases e2
        rcases f2 with f2 | f2
        · have f2' : H p = none := f2
          rw [e3] at f2'; cases f2'
        · exact e4 f2
      · rw [g2] at e2; cases e2
        have hk2 := lt_of_get e3
        exact E2.apart k us.length p q' d2 q1 d1 (by omega) (inS e1) lastS (by rw [inU hk2, List.getElem?_map, e3]; rfl) lastV
    have toE : ∀ (j : Nat) q2 d2, j ≠ (L ++ Ts).length → (backL L Rs S1 ios ++ Ts ++ [R])[j]? = some (.ow q2 d2) → (ρ ++ [some u])[j]? = some (some (V.ref p)) → ∃ q3 d3, (L ++ Ts ++ Rs)[j]? = some (.ow q3 d3) ∧ (ρ ++ us.map some)[j]? = some (some (V.ref p)) := fun j q2 d2 hj g1 g2 => by
      rcases owB j q2 d2 (inB g1 hj) with ⟨p3, o3, e1, e2, e3, _⟩ | ⟨k, d0, q', p3, o3, hk, _, e1, _, e2, e3, _⟩
      · rw [g2] at e2; cases e2
        exact ⟨_, _, e1, e3⟩
      · rw [g2] at e2; cases e2
        exact ⟨_, _, inL e1, e3⟩
    by_cases hi : i = (L ++ Ts).length
    · subst hi
      rw [lastB] at h1; cases h1
      rw [lastU] at h3; cases h3
      exact lastOld j q d q' d' rfl rfl (Ne.symm hne) h2 h4
    · by_cases hj : j = (L ++ Ts).length
      · subst hj
        rw [lastB] at h2; cases h2
        rw [lastU] at h4; cases h4
        exact lastOld i q' d' q d rfl rfl hi h1 h3
      · obtain ⟨q3, d3, g1, g2⟩ := toE i q d hi h1 h3
        obtain ⟨q4, d4, g3, g4⟩ := toE j q' d' hj h2 h4
        exact E.apart i j p q3 d3 q4 d4 hne g1 g3 g2 g4
  · refine kp b o (E.hold b o e n) fun z => ?_
    obtain ⟨k, hk, j, q1, d1, g1, g2, g3, g4⟩ := owner b z
    obtain ⟨p', o', a', _, _, _, f', _⟩ := E.ow j q1 d1 (inL g2)
    rw [g3] at a'; cases a'
    rcases f' with f' | f'
    · rw [f'] at e; cases e
    · exact n f'
  · rcases E2.gn b hb with g | g | g
    · exact E.gn b g
    · have g' : H b = none := g
      by_cases hm : b ∈ C.io
      · exact .inr (.inr hm)
      · cases e : C.H0 b with
        | none => exact .inr (.inl rfl)
        | some z => rw [E.hold b z e hm] at g'; cases g'
    · obtain ⟨k, hk, j, q1, d1, g1, g2, g3, g4⟩ := owner b g
      obtain ⟨p', o', a', _, _, _, f', _⟩ := E.ow j q1 d1 (inL g2)
      rw [g3] at a'; cases a'
      exact .inr f'
end
section
variable {αc βc α γ : Type} {X : Cx} {w : Wx} {S Ts : List Sl} {e : Expr} {es : List Expr} {m : Res α} {S1 : α → List Sl} {Rs : α → List Sl} {x : Str} {p pos : Pos} {k n : Nat} {f : Addr} {fd : FuncData} {ps : List Str}
/-- f(e, ..), f a def of the program -/
theorem ev_call {S0c : αc → List Sl} {ios : List Nat} {mc : αc → Res βc} {S1c : βc → List Sl} {Rc : βc → Sl} (S' : γ → List Sl) (R : γ → Sl) (arg : α → αc) (pk : α → βc → γ)
    (Fn : FnG X.prog X.w X.K X.mg X.base k f fd ps (spF X.K X.mg n S0c ios mc S1c Rc)) (hgd : X.A.guards = some []) (hr : Room k X.A) (tk : Takes X w.W) (hm : X.mg x = some (.ref f)) (hk : PySem.W.keepIn X.K (.ref f) = true) (hb : L2.Binds X.K fd ps [])
    (ha : EvA X w (e :: es) S Ts m S1 Rs) (hA : ∀ a, ArgL (S1 a) (Rs a) (S0c (arg a))) (hio : ∀ a, okIo (S1 a) (Rs a) (S0c (arg a)) ios = true := by intros; rfl) (hn : ∀ a, (S0c (arg a)).length = n := by intros; rfl)
    (hw : ∀ a, WL ((S1 a).map fun _ => Sl.un) w.S ∨ (∀ z, mc (arg a) ≠ .exc z)) (hRc : ∀ b, noal (Rc b) = true ∧ nosc (Rc b) = true ∧ ∀ d, Rc b ≠ .rd d := by intros; exact ⟨rfl, rfl, fun _ => nofun⟩)
    (hS : ∀ a b, S' (pk a b) = backL (S1 a) (Rs a) (S1c b) ios := by intros; rfl) (hR : ∀ a b, R (pk a b) = Rc b := by intros; rfl)
    (hg : Gl X x := by rfl) (hdb : (x == ("__debug__" : Str)) = false := by decide) (he : starEach (e :: es) X.env = (false, eval e X.env) :: starEach es X.env := by rfl) (hpl : (backTo pos (starEach es X.env)).any (·.1) = false := by rfl) :
    EvE X w (.Call (.Name x p) (e :: es) [] pos) S Ts (m.bind fun a => (mc (arg a)).bind fun b => .ok (pk a b)) S' R := by
  intro C σ τ F H Q hK hτ E hq hx hbad
  refine ⟨_, pe_callG Fn hgd hr hg hm hk hb .nil (fun σ => passAt tk σ) canA hdb he hpl, ?_⟩
  refine ha C σ τ F H _ hK hτ E (fun a ha us F1 H1 hl E1 => ?_) (fun x ex => hx x (exc_bind ex)) (fun eb => hbad (bad_bind eb))
  rw [ok_bind ha] at hq hx hbad
  have ok := OkIo.of (hio a)
  have E0 := E1.give hl (hA a) ok
  rw [hK] at E0
  rw [List.append_nil]
  refine ⟨arg a, F1, hn a, E0, fun eb => hbad (bad_bind eb), fun b hb' u F2 H2 E2 => ?_, fun z hz cls d F2 H2 E2 hi => ?_⟩
  · refine hq (pk a b) (ok_bind hb') u F2 H2 ?_
    rw [hS, hR]
    exact E1.take hl ok (hRc b) (by rw [hK]; exact E2)
  · rcases hw a with hw | hw
    · refine hx z (exc_bind hz) cls d F2 H2 ?_ hi
      have hσ : σ.length = (S1 a).length := by have := E1.len; simp [hl, hτ] at this; omega
      refine Env.wk ?_ hw
      have E3 := Env.pushV (E2.uns us.length (us.map some) (by simp)) (x := .non) (d := .non) .non
      have E4 := E1.take hl ok (R := .v .non) ⟨rfl, rfl, fun _ => nofun⟩ (by rw [hK]; exact E3)
      have E5 : Env C [] [] F2 H2 := Env.pre (L := []) (M := backL (S1 a) (Rs a) (List.replicate us.length .un) ios ++ Ts ++ [.v .non]) (ρ := []) (π := σ ++ τ ++ [some .non]) (by simpa using E4.len) (by simpa using E4)
      have := E5.uns (S1 a).length σ hσ
      rwa [List.map_const']
    · exact absurd hz (hw z)
end
end G
namespace G
open PySem L2
def rM (X : Cx) (id : String) : V → List V → Hp → VK → Prop := fun x vs H Q => ∃ r, MtR X id r ∧ r x vs H Q
theorem mtU {X : Cx} {id : String} : MtR X id (rM X id) := fun pins s σ H x xs v us Q I rx rs ⟨_, h, q⟩ => h pins s σ H x xs v us Q I rx rs q
section
variable {α β γ : Type} {X : Cx} {w : Wx} {S Ts : List Sl} {e : Expr} {es : List Expr} {m : Res α} {S1 : α → List Sl} {Rs : α → List Sl} {x mn : Str} {px apos cpos : Pos} {T id : String}
def opM := List D → List D → Res (D × List D)
theorem top_ty {K : PySem.W.Frag} {F H : Hp} {p : Addr} {o : HO} {d : D} (h : Top K F o d) (e : H p = some o) : (∃ ds, d = .list ds) ∧ tyV K "list" (.ref p) H ∨ (∃ es, d = .dict es) ∧ tyV K "dict" (.ref p) H := by
  cases d <;> simp only [Top] at h
  · obtain ⟨xs, rfl, _⟩ := h
    exact .inl ⟨⟨_, rfl⟩, .inl ⟨rfl, xs, .inl (.inl e)⟩⟩
  · obtain ⟨xs, rfl, _⟩ := h
    exact .inr ⟨⟨_, rfl⟩, .inr (.inr (.inl ⟨rfl, .inl ⟨xs, e⟩⟩))⟩
/-- x.m(e, ..) that changes x: x an owned list -/
theorem ev_mut {op : List D → List D → Res (D × List D)} (i : Nat) (S' : γ → List Sl) (R : γ → Sl) (pk : α → D × List D → γ) (q : α → Option Addr) (d : α → List D) (ds : α → List D) (d0 : List D) (q0 : Option Addr)
    (pa : PlainAttrs "list") (slot : Slot "list" mn id) (hty : typeOf (.builtin id) = pure (.type "method_descriptor"))
    (hop : ∀ {d : List D} {ds : List D} {r : D × List D} {F H : Hp} {p : Addr} {us : List V} {o : HO}, op d ds = .ok r → H p = some o → Top X.K F o (.list d) → RpL X.K F us ds → ∃ o' z, Top X.K F o' (.list r.2) ∧ Rp X.K F z r.1 ∧ ∀ Q : VK, Q z (upd H p o') → rM X id (.ref p) us H Q)
    (hne : ∀ {d : List D} {ds : List D} {x : Exn}, op d ds = .exc x → False)
    (ha : EvA X w es S Ts m S1 Rs) (hpe : ∀ {to : TE} {ta : TA}, PE X (.Name x px) to → PA X es ta → PE X e (tBM X.K "list" (rM X id) to ta))
    (h0 : S[i]? = some (.ow q0 (.list d0)) := by rfl) (hi : ∀ a, (S1 a)[i]? = some (.ow (q a) (.list (d a))) := by intros; rfl) (hv : ∀ a, Rs a = (ds a).map Sl.v := by intros; rfl)
    (hS : ∀ a r, S' (pk a r) = (S1 a).set i (.ow (q a) (.list r.2)) := by intros; rfl) (hR : ∀ a r, R (pk a r) = .v r.1 := by intros; rfl)
    (hN : X.N[i]? = some x := by rfl) (hvis : Vis X.env.scope x := by first | exact Or.inl rfl | exact Or.inr (Or.inl rfl) | exact Or.inr (Or.inr rfl))
    (hd : (x == ("__debug__" : Str)) = false := by decide) (hcd : (x == ("__classdict__" : Str)) = false := by decide) :
    EvE X w e S Ts (m.bind fun a => (op (d a) (ds a)).bind fun r => .ok (pk a r)) S' R := by
  intro C σ τ F H Q hK hτ E hq hx hb
  refine ⟨_, hpe (pe_var hN hvis hd hcd) canA, ?_⟩
  have hl := nil_len E hτ
  have hi0 := lt_of_get h0
  obtain ⟨p, o, a1, a2, _, a4, _⟩ := E.ow i _ _ (by rw [at_left hi0]; exact h0)
  rw [at_left (by omega)] at a1
  obtain ⟨xs0, rfl, _⟩ := a4
  refine ⟨_, a1, .inl ⟨rfl, xs0, .inl (.inl a2)⟩, ?_⟩
  refine ha C σ τ F H _ hK hτ E (fun a ha us F1 H1 hlu E1 => ?_) (fun x ex => hx x (exc_bind ex)) (fun eb => hb (bad_bind eb))
  rw [ok_bind ha] at hq hb
  rw [hv a] at E1 hlu
  have hl' : us.length = (ds a).length := by simpa using hlu
  have rs := E1.vals hl'
  have E2 := E1.pre (by simpa using hl')
  have hi1 := lt_of_get (hi a)
  have g1 : (S1 a ++ Ts)[i]? = some (.ow (q a) (.list (d a))) := by rw [at_left hi1]; exact hi a
  obtain ⟨p', o', b1, b2, b3, b4, b5⟩ := E2.ow i _ _ g1
  have b1' := b1
  rw [at_left (by omega), a1] at b1; cases b1
  rw [hK] at rs b4
  cases eo : op (d a) (ds a) with
  | bad => rw [eo] at hb; exact absurd rfl hb
  | exc x => exact (hne eo).elim
  | ok r =>
    rw [eo] at hq
    obtain ⟨o2, z, t2, rz, k⟩ := hop eo b2 b4 rs
    refine k _ (hq (pk a r) rfl z F1 _ ?_)
    rw [hS, hR]
    have E3 := E2.write (d' := .list r.2) g1 b1' (by rw [hK]; exact t2)
    rw [List.set_append_left _ _ hi1] at E3
    exact E3.pushV (by rw [hK]; exact rz)
/-! ### the methods of lists -/
def opAppend : List D → List D → Res (D × List D)
  | xs, [y] => if xs.length < sizeLine then .ok (.non, xs ++ [y]) else .bad
  | _, _ => .bad
def opPop : List D → List D → Res (D × List D)
  | xs, [] => match xs[xs.length - 1]? with
    | some y => .ok (y, xs.dropLast)
    | none => .bad
  | _, _ => .bad
def opPopAt : List D → List D → Res (D × List D)
  | xs, [.int i] => match seqIndex? i xs.length with
    | some k => match xs[k]? with
      | some y => if -(2 ^ 63) ≤ i ∧ i < 2 ^ 63 then .ok (y, xs.eraseIdx k) else .bad
      | none => .bad
    | none => .bad
  | _, _ => .bad
def opReverse : List D → List D → Res (D × List D)
  | xs, [] => .ok (.non, xs.reverse)
  | _, _ => .bad
def opClear : List D → List D → Res (D × List D)
  | _, [] => .ok (.non, [])
  | _, _ => .bad
def opInsert : List D → List D → Res (D × List D)
  | xs, [.int i, y] => if xs.length < sizeLine ∧ 0 ≤ i ∧ i < 2 ^ 63 then .ok (.non, (xs.take i.toNat ++ [y] ++ xs.drop i.toNat)) else .bad
  | _, _ => .bad
theorem append_ok {d : List D} {ds : List D} {r : D × List D} {F H : Hp} {p : Addr} {us : List V} {o : HO} (h : opAppend d ds = .ok r) (hp : H p = some o) (t : Top X.K F o (.list d)) (hu : RpL X.K F us ds) : ∃ o' z, Top X.K F o' (.list r.2) ∧ Rp X.K F z r.1 ∧ ∀ Q : VK, Q z (upd H p o') → rM X "list.append" (.ref p) us H Q := by
  unfold opAppend at h
  split at h
  · split at h
    · cases h
      obtain ⟨xs, rfl, b⟩ := t
      cases hu with
      | cons r1 r2 =>
        cases r2
        exact ⟨_, .non, ⟨_, rfl, b.app (RpL.one r1)⟩, .non, fun Q q => ⟨_, mt_append, p, xs, _, rfl, rfl, hp, by rw [b.len]; assumption, q⟩⟩
    · cases h
  · cases h
theorem pop_ok {d : List D} {ds : List D} {r : D × List D} {F H : Hp} {p : Addr} {us : List V} {o : HO} (h : opPop d ds = .ok r) (hp : H p = some o) (t : Top X.K F o (.list d)) (hu : RpL X.K F us ds) : ∃ o' z, Top X.K F o' (.list r.2) ∧ Rp X.K F z r.1 ∧ ∀ Q : VK, Q z (upd H p o') → rM X "list.pop" (.ref p) us H Q := by
  unfold opPop at h
  split at h
  · split at h
    · cases h
      obtain ⟨xs, rfl, b⟩ := t
      cases hu
      rename_i y hy
      obtain ⟨u, h1, h2⟩ := b.get hy
      exact ⟨_, u, ⟨_, rfl, b.dl⟩, h2, fun Q q => ⟨_, mt_pop, p, xs, u, rfl, rfl, hp, by rw [b.len]; exact h1, q⟩⟩
    · cases h
  · cases h
theorem popAt_ok {d : List D} {ds : List D} {r : D × List D} {F H : Hp} {p : Addr} {us : List V} {o : HO} (h : opPopAt d ds = .ok r) (hp : H p = some o) (t : Top X.K F o (.list d)) (hu : RpL X.K F us ds) : ∃ o' z, Top X.K F o' (.list r.2) ∧ Rp X.K F z r.1 ∧ ∀ Q : VK, Q z (upd H p o') → rM X "list.pop" (.ref p) us H Q := by
  unfold opPopAt at h
  split at h
  · split at h
    · split at h
      · split at h
        · cases h
          obtain ⟨xs, rfl, b⟩ := t
          cases hu with
          | cons r1 r2 =>
            cases r2; cases r1
            rename_i xs0 i0 _ k hk _ y hy hz
            obtain ⟨u, h1, h2⟩ := b.get hy
            exact ⟨_, u, ⟨_, rfl, b.era k⟩, h2, fun Q q => ⟨_, mt_popAt, p, xs, _, k, u, rfl, rfl, hp, hz.1, hz.2, by rw [b.len]; exact hk, h1, q⟩⟩
        · cases h
      · cases h
    · cases h
  · cases h
theorem reverse_ok {d : List D} {ds : List D} {r : D × List D} {F H : Hp} {p : Addr} {us : List V} {o : HO} (h : opReverse d ds = .ok r) (hp : H p = some o) (t : Top X.K F o (.list d)) (hu : RpL X.K F us ds) : ∃ o' z, Top X.K F o' (.list r.2) ∧ Rp X.K F z r.1 ∧ ∀ Q : VK, Q z (upd H p o') → rM X "list.reverse" (.ref p) us H Q := by
  unfold opReverse at h
  split at h
  · cases h
    obtain ⟨xs, rfl, b⟩ := t
    cases hu
    exact ⟨_, .non, ⟨_, rfl, b.rev⟩, .non, fun Q q => ⟨_, mt_reverse, p, xs, rfl, rfl, hp, q⟩⟩
  · cases h
theorem clear_ok {d : List D} {ds : List D} {r : D × List D} {F H : Hp} {p : Addr} {us : List V} {o : HO} (h : opClear d ds = .ok r) (hp : H p = some o) (t : Top X.K F o (.list d)) (hu : RpL X.K F us ds) : ∃ o' z, Top X.K F o' (.list r.2) ∧ Rp X.K F z r.1 ∧ ∀ Q : VK, Q z (upd H p o') → rM X "list.clear" (.ref p) us H Q := by
  unfold opClear at h
  split at h
  · cases h
    obtain ⟨xs, rfl, b⟩ := t
    cases hu
    exact ⟨_, .non, ⟨_, rfl, .nil⟩, .non, fun Q q => ⟨_, mt_clear, p, xs, rfl, rfl, hp, q⟩⟩
  · cases h
theorem insert_ok {d : List D} {ds : List D} {r : D × List D} {F H : Hp} {p : Addr} {us : List V} {o : HO} (h : opInsert d ds = .ok r) (hp : H p = some o) (t : Top X.K F o (.list d)) (hu : RpL X.K F us ds) : ∃ o' z, Top X.K F o' (.list r.2) ∧ Rp X.K F z r.1 ∧ ∀ Q : VK, Q z (upd H p o') → rM X "list.insert" (.ref p) us H Q := by
  unfold opInsert at h
  split at h
  · split at h
    · rename_i hz
      cases h
      obtain ⟨xs, rfl, b⟩ := t
      cases hu with
      | cons r1 r2 =>
        cases r1
        cases r2 with
        | cons r2 r3 =>
          cases r3
          exact ⟨_, .non, ⟨_, rfl, ((b.take _).app (RpL.one r2)).app (b.drop _)⟩, .non, fun Q q => ⟨_, mt_insert, p, xs, _, _, rfl, rfl, hp, by rw [b.len]; exact hz.1, hz.2.1, hz.2.2, q⟩⟩
    · cases h
  · cases h
theorem append_ne {d : List D} {ds : List D} {x : Exn} (e : opAppend d ds = .exc x) : False := by unfold opAppend at e; split at e <;> (first | cases e | (split at e <;> cases e))
theorem pop_ne {d : List D} {ds : List D} {x : Exn} (e : opPop d ds = .exc x) : False := by unfold opPop at e; split at e <;> (first | cases e | (split at e <;> cases e))
theorem popAt_ne {d : List D} {ds : List D} {x : Exn} (e : opPopAt d ds = .exc x) : False := by
  unfold opPopAt at e
  split at e
  · split at e
    · split at e
      · split at e <;> cases e
      · cases e
    · cases e
  · cases e
theorem reverse_ne {d : List D} {ds : List D} {x : Exn} (e : opReverse d ds = .exc x) : False := by unfold opReverse at e; split at e <;> cases e
theorem clear_ne {d : List D} {ds : List D} {x : Exn} (e : opClear d ds = .exc x) : False := by unfold opClear at e; split at e <;> cases e
theorem insert_ne {d : List D} {ds : List D} {x : Exn} (e : opInsert d ds = .exc x) : False := by unfold opInsert at e; split at e <;> (first | cases e | (split at e <;> cases e))
variable {e1 : Expr} {q0 : Option Addr} {d0 : List D}
/-- with arguments -/
theorem ev_m1 {op : List D → List D → Res (D × List D)} (slot : Slot "list" mn id) (hty : typeOf (.builtin id) = pure (.type "method_descriptor"))
    (hop : ∀ {d : List D} {ds : List D} {r : D × List D} {F H : Hp} {p : Addr} {us : List V} {o : HO}, op d ds = .ok r → H p = some o → Top X.K F o (.list d) → RpL X.K F us ds → ∃ o' z, Top X.K F o' (.list r.2) ∧ Rp X.K F z r.1 ∧ ∀ Q : VK, Q z (upd H p o') → rM X id (.ref p) us H Q)
    (hne : ∀ {d : List D} {ds : List D} {x : Exn}, op d ds = .exc x → False) (i : Nat) (S' : γ → List Sl) (R : γ → Sl) (pk : α → D × List D → γ) (q : α → Option Addr) (d : α → List D) (ds : α → List D) (ha : EvA X w (e1 :: es) S Ts m S1 Rs)
    (h0 : S[i]? = some (.ow q0 (.list d0)) := by rfl) (hi : ∀ a, (S1 a)[i]? = some (.ow (q a) (.list (d a))) := by intros; rfl) (hv : ∀ a, Rs a = (ds a).map Sl.v := by intros; rfl)
    (hS : ∀ a r, S' (pk a r) = (S1 a).set i (.ow (q a) (.list r.2)) := by intros; rfl) (hR : ∀ a r, R (pk a r) = .v r.1 := by intros; rfl)
    (hN : X.N[i]? = some x := by rfl) (hvis : Vis X.env.scope x := by first | exact Or.inl rfl | exact Or.inr (Or.inl rfl) | exact Or.inr (Or.inr rfl))
    (hd : (x == ("__debug__" : Str)) = false := by decide) (hcd : (x == ("__classdict__" : Str)) = false := by decide)
    (hbase : attributeBase (.Name x px) mn X.env (eval (.Name x px) X.env) = eval (.Name x px) X.env := by rfl)
    (hfew : ((backTo cpos (starEach (e1 :: es) X.env)).all (fun x => !x.1) && (backToKw cpos (keywordEach [] X.env)).all (fun x => x.1.isSome) && decide ((e1 :: es).length + ([] : List Keyword).length + (if ([] : List Keyword).isEmpty then 0 else 1) < 30)) = true := by rfl)
    (hline : (apos.endLine == cpos.line) = true := by rfl) (hs : starEach (e1 :: es) X.env = (false, eval e1 X.env) :: starEach es X.env := by rfl) (hplain : (backTo cpos (starEach es X.env)).any (·.1) = false := by rfl) :
    EvE X w (.Call (.Attribute (.Name x px) mn apos) (e1 :: es) [] cpos) S Ts (m.bind fun a => (op (d a) (ds a)).bind fun r => .ok (pk a r)) S' R :=
  ev_mut (op := op) i S' R pk q d ds d0 q0 PySem.F.plainAttrs_list slot hty hop hne ha (fun h1 h2 => pe_bm PySem.F.plainAttrs_list slot hty mtU h1 h2 hbase hfew hline hs hplain)
    h0 hi hv hS hR hN hvis hd hcd
/-- without -/
theorem ev_m0 {op : List D → List D → Res (D × List D)} (slot : Slot "list" mn id) (hty : typeOf (.builtin id) = pure (.type "method_descriptor"))
    (hop : ∀ {d : List D} {ds : List D} {r : D × List D} {F H : Hp} {p : Addr} {us : List V} {o : HO}, op d ds = .ok r → H p = some o → Top X.K F o (.list d) → RpL X.K F us ds → ∃ o' z, Top X.K F o' (.list r.2) ∧ Rp X.K F z r.1 ∧ ∀ Q : VK, Q z (upd H p o') → rM X id (.ref p) us H Q)
    (hne : ∀ {d : List D} {ds : List D} {x : Exn}, op d ds = .exc x → False) (i : Nat) (S' : γ → List Sl) (R : γ → Sl) (pk : D × List D → γ)
    (h0 : S[i]? = some (.ow q0 (.list d0)) := by rfl)
    (hS : ∀ r, S' (pk r) = S.set i (.ow q0 (.list r.2)) := by intros; rfl) (hR : ∀ r, R (pk r) = .v r.1 := by intros; rfl)
    (hN : X.N[i]? = some x := by rfl) (hvis : Vis X.env.scope x := by first | exact Or.inl rfl | exact Or.inr (Or.inl rfl) | exact Or.inr (Or.inr rfl))
    (hd : (x == ("__debug__" : Str)) = false := by decide) (hcd : (x == ("__classdict__" : Str)) = false := by decide)
    (hbase : attributeBase (.Name x px) mn X.env (eval (.Name x px) X.env) = eval (.Name x px) X.env := by rfl)
    (hline : (apos.endLine == cpos.line) = true := by rfl) :
    EvE X w (.Call (.Attribute (.Name x px) mn apos) [] [] cpos) S Ts ((op d0 []).bind fun r => .ok (pk r)) S' R := by
  intro C σ τ F H Q hK hτ E hq hx hb
  refine ⟨_, pe_bm0 PySem.F.plainAttrs_list slot hty mtU (pe_var hN hvis hd hcd) hbase hline, ?_⟩
  have hl := nil_len E hτ
  have hi0 := lt_of_get h0
  have g1 : (S ++ Ts)[i]? = some (.ow q0 (.list d0)) := by rw [at_left hi0]; exact h0
  obtain ⟨p, o, a1, a2, _, a4, _⟩ := E.ow i _ _ g1
  have a1' := a1
  rw [at_left (by omega)] at a1
  have a4' := a4
  obtain ⟨xs0, rfl, _⟩ := a4
  refine ⟨_, a1, .inl ⟨rfl, xs0, .inl (.inl a2)⟩, ?_⟩
  rw [hK] at a4'
  cases eo : op d0 [] with
  | bad => rw [eo] at hb; exact absurd rfl hb
  | exc x => exact (hne eo).elim
  | ok r =>
    rw [eo] at hq
    obtain ⟨o2, z, t2, rz, k⟩ := hop eo a2 a4' .nil
    refine k _ (hq (pk r) rfl z F _ ?_)
    rw [hS, hR]
    have E3 := E.write (d' := .list r.2) g1 a1' (by rw [hK]; exact t2)
    rw [List.set_append_left _ _ hi0] at E3
    exact E3.pushV (by rw [hK]; exact rz)
end
end G
namespace G
open PySem L2
/-! ## what built-ins do -/
section
variable {X : Cx} {F H : Hp} {us : List V} {ds : List D} {d : D}
theorem rnl1 {K : PySem.W.Frag} {d : D} (h : RnL K F H us [d]) : ∃ u, us = [u] ∧ Rn K F H u d := by
  cases h with
  | cons a b => cases b; exact ⟨_, rfl, a⟩
theorem rnl2 {K : PySem.W.Frag} {d e : D} (h : RnL K F H us [d, e]) : ∃ u v, us = [u, v] ∧ Rn K F H u d ∧ Rn K F H v e := by
  cases h with
  | cons a b =>
    cases b with
    | cons b c => cases c; exact ⟨_, _, rfl, a, b⟩
def opLen : List D → Res D
  | [.list xs] => .ok (.int xs.length)
  | [.tup xs] => .ok (.int xs.length)
  | [.str z] => if z.length ≤ sizeLine then .ok (.int z.length) else .bad
  | _ => .bad
theorem len_ok (hs : Le F H) (h : opLen ds = .ok d) (r : RnL X.K F H us ds) : ∃ z, Rp X.K F z d ∧ ∀ Q : VK, Q z H → rC X (.builtin "len") us H Q := by
  unfold opLen at h
  split at h
  · cases h
    obtain ⟨u, rfl, a⟩ := rnl1 r
    obtain ⟨p, xs, rfl, b, c⟩ := a.list hs
    exact ⟨_, .int _, fun Q q => ⟨_, call_len_seq, p, xs, rfl, .inl (.inl b), by rw [c.len]; exact q⟩⟩
  · cases h
    obtain ⟨u, rfl, a⟩ := rnl1 r
    obtain ⟨p, xs, rfl, b, c⟩ := a.tup hs
    exact ⟨_, .int _, fun Q q => ⟨_, call_len_seq, p, xs, rfl, .inr b, by rw [c.len]; exact q⟩⟩
  · split at h
    · cases h
      obtain ⟨u, rfl, a⟩ := rnl1 r
      cases a.str
      exact ⟨_, .int _, fun Q q => ⟨_, call_len_str, _, rfl, by assumption, q⟩⟩
    · cases h
  · cases h
def opAbs : List D → Res D
  | [.int i] => .ok (.int (if i < 0 then -i else i))
  | _ => .bad
theorem abs_ok (hs : Le F H) (h : opAbs ds = .ok d) (r : RnL X.K F H us ds) : ∃ z, Rp X.K F z d ∧ ∀ Q : VK, Q z H → rC X (.builtin "abs") us H Q := by
  unfold opAbs at h
  split at h
  · cases h
    obtain ⟨u, rfl, a⟩ := rnl1 r
    cases a.int
    exact ⟨_, .int _, fun Q q => ⟨_, call_abs, _, rfl, q⟩⟩
  · cases h
def opMax : List D → Res D
  | [.int i, .int j] => .ok (.int (if j > i then j else i))
  | _ => .bad
theorem max_ok (hc : X.calm = true) (hs : Le F H) (h : opMax ds = .ok d) (r : RnL X.K F H us ds) : ∃ z, Rp X.K F z d ∧ ∀ Q : VK, Q z H → rC X (.builtin "max") us H Q := by
  unfold opMax at h
  split at h
  · cases h
    obtain ⟨u, v, rfl, a, b⟩ := rnl2 r
    cases a.int; cases b.int
    exact ⟨_, .int _, fun Q q => ⟨_, call_max2 hc, _, _, rfl, q⟩⟩
  · cases h
def opMin : List D → Res D
  | [.int i, .int j] => .ok (.int (if j < i then j else i))
  | _ => .bad
theorem min_ok (hc : X.calm = true) (hs : Le F H) (h : opMin ds = .ok d) (r : RnL X.K F H us ds) : ∃ z, Rp X.K F z d ∧ ∀ Q : VK, Q z H → rC X (.builtin "min") us H Q := by
  unfold opMin at h
  split at h
  · cases h
    obtain ⟨u, v, rfl, a, b⟩ := rnl2 r
    cases a.int; cases b.int
    exact ⟨_, .int _, fun Q q => ⟨_, call_min2 hc, _, _, rfl, q⟩⟩
  · cases h
def opInt : List D → Res D
  | [.int i] => .ok (.int i)
  | [.bl b] => .ok (.int (if b then 1 else 0))
  | _ => .bad
theorem int_ok (hs : Le F H) (h : opInt ds = .ok d) (r : RnL X.K F H us ds) : ∃ z, Rp X.K F z d ∧ ∀ Q : VK, Q z H → rC X (.type "int") us H Q := by
  unfold opInt at h
  split at h
  · cases h
    obtain ⟨u, rfl, a⟩ := rnl1 r
    cases a.int
    exact ⟨_, .int _, fun Q q => ⟨_, call_int1, .inl ⟨_, rfl, q⟩⟩⟩
  · cases h
    obtain ⟨u, rfl, a⟩ := rnl1 r
    cases a.bl
    exact ⟨_, .int _, fun Q q => ⟨_, call_int1, .inr ⟨_, rfl, q⟩⟩⟩
  · cases h
/-- lists of ints, of texts, of truth values -/
def intsOf : List D → Option (List Int)
  | [] => some []
  | .int i :: ds => (intsOf ds).map (i :: ·)
  | _ => none
def strsOf : List D → Option (List Str)
  | [] => some []
  | .str i :: ds => (strsOf ds).map (i :: ·)
  | _ => none
def blsOf : List D → Option (List Bool)
  | [] => some []
  | .bl i :: ds => (blsOf ds).map (i :: ·)
  | _ => none
theorem intsOf_ok : ∀ {ds : List D} {ns : List Int}, intsOf ds = some ns → ds = ns.map .int
  | [], ns, h => by cases h; rfl
  | d :: ds, ns, h => by
    cases d <;> simp only [intsOf] at h <;> try (cases h; done)
    obtain ⟨ms, h1, rfl⟩ := Option.map_eq_some_iff.mp h
    rw [intsOf_ok h1]; rfl
theorem strsOf_ok : ∀ {ds : List D} {ns : List Str}, strsOf ds = some ns → ds = ns.map .str
  | [], ns, h => by cases h; rfl
  | d :: ds, ns, h => by
    cases d <;> simp only [strsOf] at h <;> try (cases h; done)
    obtain ⟨ms, h1, rfl⟩ := Option.map_eq_some_iff.mp h
    rw [strsOf_ok h1]; rfl
theorem blsOf_ok : ∀ {ds : List D} {ns : List Bool}, blsOf ds = some ns → ds = ns.map .bl
  | [], ns, h => by cases h; rfl
  | d :: ds, ns, h => by
    cases d <;> simp only [blsOf] at h <;> try (cases h; done)
    obtain ⟨ms, h1, rfl⟩ := Option.map_eq_some_iff.mp h
    rw [blsOf_ok h1]; rfl
@[simp] theorem intsOf_map (ns : List Int) : intsOf (ns.map .int) = some ns := by induction ns with | nil => rfl | cons n ns ih => simp [intsOf, ih]
@[simp] theorem strsOf_map (ns : List Str) : strsOf (ns.map .str) = some ns := by induction ns with | nil => rfl | cons n ns ih => simp [strsOf, ih]
@[simp] theorem blsOf_map (ns : List Bool) : blsOf (ns.map .bl) = some ns := by induction ns with | nil => rfl | cons n ns ih => simp [blsOf, ih]
def opSum : List D → Res D
  | [.list xs] => match intsOf xs with
    | some ns => .ok (.int ns.sum)
    | none => .bad
  | _ => .bad
theorem sum_ok (hc : X.calm = true) (hs : Le F H) (h : opSum ds = .ok d) (r : RnL X.K F H us ds) : ∃ z, Rp X.K F z d ∧ ∀ Q : VK, Q z H → rC X (.builtin "sum") us H Q := by
  unfold opSum at h
  split at h
  · split at h
    · cases h
      rename_i ns hn
      obtain ⟨u, rfl, a⟩ := rnl1 r
      obtain ⟨p, xs, rfl, b, c⟩ := a.list hs
      rw [intsOf_ok hn] at c
      cases c.ints
      exact ⟨_, .int _, fun Q q => ⟨_, cr_sum hc, p, ns, rfl, .inl b, q⟩⟩
    · cases h
  · cases h
def opAll : List D → Res D
  | [.list xs] => match blsOf xs with
    | some ns => .ok (.bl (ns.all id))
    | none => .bad
  | _ => .bad
theorem all_ok (hc : X.calm = true) (hs : Le F H) (h : opAll ds = .ok d) (r : RnL X.K F H us ds) : ∃ z, Rp X.K F z d ∧ ∀ Q : VK, Q z H → rC X (.builtin "all") us H Q := by
  unfold opAll at h
  split at h
  · split at h
    · cases h
      rename_i ns hn
      obtain ⟨u, rfl, a⟩ := rnl1 r
      obtain ⟨p, xs, rfl, b, c⟩ := a.list hs
      rw [blsOf_ok hn] at c
      cases c.bls
      exact ⟨_, .bl _, fun Q q => ⟨_, cr_all hc, p, ns, rfl, .inl b, q⟩⟩
    · cases h
  · cases h
def opAny : List D → Res D
  | [.list xs] => match blsOf xs with
    | some ns => .ok (.bl (ns.any id))
    | none => .bad
  | _ => .bad
theorem any_ok (hc : X.calm = true) (hs : Le F H) (h : opAny ds = .ok d) (r : RnL X.K F H us ds) : ∃ z, Rp X.K F z d ∧ ∀ Q : VK, Q z H → rC X (.builtin "any") us H Q := by
  unfold opAny at h
  split at h
  · split at h
    · cases h
      rename_i ns hn
      obtain ⟨u, rfl, a⟩ := rnl1 r
      obtain ⟨p, xs, rfl, b, c⟩ := a.list hs
      rw [blsOf_ok hn] at c
      cases c.bls
      exact ⟨_, .bl _, fun Q q => ⟨_, cr_any hc, p, ns, rfl, .inl b, q⟩⟩
    · cases h
  · cases h
/-! ### repr -/
theorem reads_of {pins : List (Addr × Obj)} {σ : L2.St} {s : Shared} (I : L2.Inv X pins σ H s) {x : V} {v : Value} {d : D} (h : Rp X.K H x d) (hp : plain d = true) (r : RelV x v) : ∃ as, Reads s.heap v (toP d) as := Dp.reads I _ x v (Rp.dp d x h hp) r
def rRepr (X : Cx) : List V → Hp → VK → Prop := fun xs H Q => ∃ a d, xs = [V.ref a] ∧ Rp X.K H (.ref a) d ∧ plain d = true ∧ (toP d).showable = true ∧ (toP d).hasDict = false ∧ (toP d).depth ≤ 60 ∧ (toP d).shown.length ≤ sizeLine ∧ Q (.str (toP d).shown) H
theorem call_reprL (hg : X.A.guards = some []) (hu : X.A.units + 65 < cLine) : CallR X (.builtin "repr") (rRepr X) := by
  intro pins s σ H xs us Q I r h
  obtain ⟨a, d, rfl, h1, h2, h3, h4, h5, h6, q⟩ := h
  obtain ⟨u, rfl, ru⟩ := vals1 r
  cases ru
  obtain ⟨as, rd⟩ := reads_of I h1 h2 rfl
  exact PySem.repr_of_reads' rd h3 (PyData.noDict_hsm h4) hg (by omega) (fun _ _ e => e) (fun h' u tk hk => ⟨.str _, H, I.kept (t' := tk) hk, ⟨_, rfl⟩, q⟩) h6
def opRepr : List D → Res D
  | [.list xs] => if plain (.list xs) && (toP (.list xs)).showable && decide ((toP (.list xs)).depth ≤ 60) && decide ((toP (.list xs)).shown.length ≤ sizeLine) && !(toP (.list xs)).hasDict then .ok (.str (toP (.list xs)).shown) else .bad
  | [.tup xs] => if plain (.tup xs) && (toP (.tup xs)).showable && decide ((toP (.tup xs)).depth ≤ 60) && decide ((toP (.tup xs)).shown.length ≤ sizeLine) && !(toP (.tup xs)).hasDict then .ok (.str (toP (.tup xs)).shown) else .bad
  | [.int i] => if i.natAbs.log2 < 1920 then .ok (.str (toString i)) else .bad
  | [.bl b] => .ok (.str (if b then "True" else "False"))
  | [.non] => .ok (.str "None")
  | [.str z] => if (PySem.reprText z).length ≤ sizeLine then .ok (.str (PySem.reprText z)) else .bad
  | _ => .bad
theorem call_repr_bl : CallR X (.builtin "repr") (fun xs H Q => ∃ b, xs = [.bl b] ∧ Q (.str (if b then "True" else "False")) H) := by
  intro pins s σ H xs us Q I r h
  obtain ⟨b, rfl, q⟩ := h
  obtain ⟨u, rfl, ru⟩ := vals1 r
  obtain rfl : u = Value.bool b := ru
  exact PySem.P.repr_of_bool ⟨.str _, H, I.tok _, ⟨_, rfl⟩, q⟩
theorem call_repr_non : CallR X (.builtin "repr") (fun xs H Q => xs = [.non] ∧ Q (.str "None") H) := by
  intro pins s σ H xs us Q I r h
  obtain ⟨rfl, q⟩ := h
  obtain ⟨u, rfl, ru⟩ := vals1 r
  obtain rfl : u = Value.none := ru
  exact PySem.P.repr_of_none ⟨.str _, H, I.tok _, ⟨_, rfl⟩, q⟩
theorem call_repr_str : CallR X (.builtin "repr") (fun xs H Q => ∃ z, xs = [.str z] ∧ (PySem.reprText z).length ≤ sizeLine ∧ Q (.str (PySem.reprText z)) H) := by
  intro pins s σ H xs us Q I r h
  obtain ⟨z, rfl, hz, q⟩ := h
  obtain ⟨u, rfl, t, rfl⟩ := vals1 r
  exact PySem.P.repr_of_str ⟨.str _, H, I.tok _, ⟨_, rfl⟩, q⟩ hz
theorem repr_ok (hg : X.A.guards = some []) (hu : X.A.units + 65 < cLine) (hs : Le F H) (h : opRepr ds = .ok d) (r : RnL X.K F H us ds) : ∃ z, Rp X.K F z d ∧ ∀ Q : VK, Q z H → rC X (.builtin "repr") us H Q := by
  unfold opRepr at h
  split at h
  · split at h
    · cases h
      rename_i hc
      simp only [Bool.and_eq_true, decide_eq_true_eq, Bool.not_eq_true'] at hc
      obtain ⟨u, rfl, a⟩ := rnl1 r
      have a' := a.rp hs
      obtain ⟨p, xs, rfl, _⟩ := a.list hs
      exact ⟨_, .str _, fun Q q => ⟨_, call_reprL hg hu, p, _, rfl, a', hc.1.1.1.1, hc.1.1.1.2, hc.2, hc.1.1.2, hc.1.2, q⟩⟩
    · cases h
  · split at h
    · cases h
      rename_i hc
      simp only [Bool.and_eq_true, decide_eq_true_eq, Bool.not_eq_true'] at hc
      obtain ⟨u, rfl, a⟩ := rnl1 r
      have a' := a.rp hs
      obtain ⟨p, xs, rfl, _⟩ := a.tup hs
      exact ⟨_, .str _, fun Q q => ⟨_, call_reprL hg hu, p, _, rfl, a', hc.1.1.1.1, hc.1.1.1.2, hc.2, hc.1.1.2, hc.1.2, q⟩⟩
    · cases h
  · split at h
    · cases h
      obtain ⟨u, rfl, a⟩ := rnl1 r
      cases a.int
      exact ⟨_, .str _, fun Q q => ⟨_, SkE.call_repr_int, _, rfl, by assumption, q⟩⟩
    · cases h
  · cases h
    obtain ⟨u, rfl, a⟩ := rnl1 r
    cases a.bl
    exact ⟨_, .str _, fun Q q => ⟨_, call_repr_bl, _, rfl, q⟩⟩
  · cases h
    obtain ⟨u, rfl, a⟩ := rnl1 r
    cases a.non
    exact ⟨_, .str _, fun Q q => ⟨_, call_repr_non, rfl, q⟩⟩
  · split at h
    · cases h
      obtain ⟨u, rfl, a⟩ := rnl1 r
      cases a.str
      exact ⟨_, .str _, fun Q q => ⟨_, call_repr_str, _, rfl, by assumption, q⟩⟩
    · cases h
  · cases h
end
end G
namespace G
open PySem L2
section
variable {α β γ Ω : Type} {X : Cx} {w : Wx} {S Ts : List Sl} {e ie : Expr} {m1 : Res α} {S1 : α → List Sl} {R1 : α → Sl} {m2 : α → Res β} {S2 : α → β → List Sl} {R2 : α → β → Sl} {rest : List Stmt} {K : Ω → Out} {x : Str} {px pos spos : Pos}
def opSet : List D → D → D → Res (List D)
  | xs, .int i, v => match ixN xs.length i with
    | some j => .ok (xs.set j v)
    | none => .bad
  | _, _, _ => .bad
theorem opSet_ne {a : List D} {b c : D} {z : Exn} (h : opSet a b c = .exc z) : False := by unfold opSet at h; split at h <;> (first | cases h | (split at h <;> cases h))
/-- x[i] = e, x an owned list -/
theorem es_set (i : Nat) {mR : α → β → List D → Res Ω} (q : α → β → Option Addr) (d : α → β → List D) (v : α → D) (di : α → β → D) (h1 : EvE X w e S Ts m1 S1 R1) (h2 : ∀ a, EvE X w ie (S1 a) (Ts ++ [R1 a]) (m2 a) (S2 a) (R2 a)) (h3 : ∀ a b r, EvS X w rest ((S2 a b).set i (.ow (q a b) (.list r))) Ts (mR a b r) K)
    (hv : ∀ a, R1 a = .v (v a) := by intros; rfl) (hvi : ∀ a b, vw (S2 a b) (R2 a b) = some (di a b) := by intros; rfl) (hi1 : ∀ a, ∃ s, (S1 a)[i]? = some s ∧ ∃ q d, s = .ow q d := by intros; exact ⟨_, rfl, _, _, rfl⟩) (hi : ∀ a b, (S2 a b)[i]? = some (.ow (q a b) (.list (d a b))) := by intros; rfl)
    (hN : X.N[i]? = some x := by rfl) (hvis : Vis X.env.scope x := by first | exact Or.inl rfl | exact Or.inr (Or.inl rfl) | exact Or.inr (Or.inr rfl))
    (hd : (x == ("__debug__" : Str)) = false := by decide) (hcd : (x == ("__classdict__" : Str)) = false := by decide)
    (hs : swapsWithSole [.Subscript (.Name x px) ie spos] e pos.line X.env = pure false := by rfl) (hw : swappedStores [.Subscript (.Name x px) ie spos] e X.env = pure none := by rfl)
    (ha1 : (assignEach [.Subscript (.Name x px) ie spos] X.env).map (·.2) = [assign (.Subscript (.Name x px) ie spos) X.env] := by rfl)
    (has : ∀ v, assign (.Subscript (.Name x px) ie spos) X.env v = (do
      let ov ← holding [v] (eval (.Name x px) X.env)
      let iv ← holding [v, ov] (eval ie X.env)
      standAt spos
      holding [v, ov, iv] (setItem ov iv v)
      release [v, ov, iv] []) := by intro _; rfl) :
    EvS X w (.Assign [.Subscript (.Name x px) ie spos] e pos :: rest) S Ts (m1.bind fun a => (m2 a).bind fun b => (opSet (d a b) (di a b) (v a)).bind fun r => mR a b r) K := by
  intro C σ τ F H D hK hτ E hq hx hb
  refine ⟨_, pss_cons (ps_asg can (pg_sub (pe_var hN hvis hd hcd) can set_list has) hs hw ha1) canB, ?_⟩
  refine h1 C σ τ F H _ hK hτ E (fun a ha u F1 H1 E1 => ?_) (fun x ex => hx x (exc_bind ex) σ) (fun eb => hb (bad_bind eb))
  rw [ok_bind ha] at hq hx hb
  have hl1 := nil_len E1.pop hτ
  obtain ⟨s, g0, q0, d0, rfl⟩ := hi1 a
  have hi0 := lt_of_get g0
  obtain ⟨p, o, a1, _⟩ := E1.pop.ow i q0 d0 (by rw [at_left hi0]; exact g0)
  rw [at_left (by omega)] at a1
  refine ⟨_, a1, ?_⟩
  refine h2 a C σ (τ ++ [some u]) F1 H1 _ hK (by simp [hτ]) (by simpa only [List.append_assoc] using E1) (fun b hb2 iv F2 H2 E2 => ?_) (fun x ex => hx x (exc_bind ex) σ) (fun eb => hb (bad_bind eb))
  rw [ok_bind hb2] at hq hx hb
  have E2' : Env C (S2 a b ++ Ts ++ [R1 a] ++ [R2 a b]) (σ ++ τ ++ [some u] ++ [some iv]) F2 H2 := by simpa only [List.append_assoc] using E2
  have ri := Env.last (T := Ts ++ [R1 a]) (ρ := σ ++ τ ++ [some u]) (by rw [← List.append_assoc]; exact E2') (hvi a b)
  have E3 := E2'.pop
  rw [hv] at E3
  obtain ⟨x1, c1, rv⟩ := E3.va (S2 a b ++ Ts).length (v a) at_last
  have hlen3 : (σ ++ τ).length = (S2 a b ++ Ts).length := E3.pop.len
  rw [← hlen3, at_last] at c1; cases c1
  have hi2 := lt_of_get (hi a b)
  have g2 : (S2 a b ++ Ts)[i]? = some (.ow (q a b) (.list (d a b))) := by rw [at_left hi2]; exact hi a b
  obtain ⟨p', o', b1, b2, b3, b4, b5⟩ := E3.pop.ow i _ _ g2
  have b1' := b1
  have hl2 := nil_len E3.pop hτ
  rw [at_left (by omega), a1] at b1; cases b1
  cases eo : opSet (d a b) (di a b) (v a) with
  | bad => rw [eo] at hb; exact absurd rfl hb
  | exc z => exact (opSet_ne eo).elim
  | ok r =>
    rw [eo] at hq hx hb
    generalize hdd : d a b = dd at eo b4
    generalize hii : di a b = ii at eo ri
    cases ii <;> simp only [opSet] at eo <;> try (cases eo; done)
    rename_i k
    split at eo
    · cases eo
      rename_i j hj
      obtain ⟨ys, rfl, hr⟩ := b4
      cases ri.int
      refine ⟨p, ys, k, j, rfl, rfl, b2, by rw [hr.len]; exact hj, ?_⟩
      have E4 := E3.pop.write (d' := .list (dd.set j (v a))) g2 b1' (o' := .lst (ys.set j u)) ⟨_, rfl, hr.set j rv⟩
      rw [List.set_append_left _ _ hi2] at E4
      exact h3 a b _ C σ τ F2 _ D hK hτ E4 hq hx hb
    · cases eo
end
end G
namespace G
open PySem L2
section
variable {α β γ δ Ω : Type} {X : Cx} {w : Wx} {S Ts : List Sl} {e1 e2 e3 : Expr} {m1 : Res α} {R1 : α → Sl} {m2 : Res β} {R2 : β → Sl} {pos p2 : Pos}
theorem bind_eta {α β : Type} (m : Res α) (f : α → Res β) : (m.bind fun a => (f a).bind fun d => .ok d) = m.bind f := by cases m <;> simp [Res.bind] <;> (cases f _ <;> rfl)
theorem EvE.cast {α : Type} {e : Expr} {m m' : Res α} {S' : α → List Sl} {R : α → Sl} (h : EvE X w e S Ts m S' R) (eq : m = m') : EvE X w e S Ts m' S' R := eq ▸ h
theorem EvT.cast {α : Type} {e : Expr} {m m' : Res α} {S' : α → List Sl} {R : α → Bool} (h : EvT X w e S Ts m S' R) (eq : m = m') : EvT X w e S Ts m' S' R := eq ▸ h
theorem bind2 {α β γ : Type} (m1 : Res α) (m2 : Res β) (f : α → β → Res γ) : (m1.bind fun a => m2.bind fun b => (f a b).bind fun d => .ok d) = m1.bind fun a => m2.bind fun b => f a b := by
  cases m1 <;> cases m2 <;> simp [Res.bind]; cases f _ _ <;> rfl
/-! ## values that change nothing -/
theorem ev_binP {op : Operator} {d1 : α → D} {d2 : β → D} (h1 : EvE X w e1 S Ts m1 (fun _ => S) R1) (h2 : ∀ a, EvE X w e2 S (Ts ++ [R1 a]) m2 (fun _ => S) R2) (v1 : ∀ a, vw S (R1 a) = some (d1 a) := by intros; rfl) (v2 : ∀ a, vw S (R2 a) = some (d2 a) := by intros; rfl) :
    EvE X w (.BinOp e1 op e2 pos) S Ts (m1.bind fun a => m2.bind fun b => opB op (d1 a) (d2 b)) (fun _ => S) .v :=
  (ev_bin (fun _ => S) .v (fun _ _ d => d) (fun a _ => d1 a) (fun _ b => d2 b) h1 h2 (fun a _ => v1 a) (fun _ b => v2 b)).cast (bind2 _ _ _)
theorem ev_cmpP {op : CmpOp} {d1 : α → D} {d2 : β → D} (hu : X.A.units + 65 < cLine) (h1 : EvE X w e1 S Ts m1 (fun _ => S) R1) (h2 : ∀ a, EvE X w e2 S (Ts ++ [R1 a]) m2 (fun _ => S) R2) (hm : behindInMarks op e2 = false := by rfl) (v1 : ∀ a, vw S (R1 a) = some (d1 a) := by intros; rfl) (v2 : ∀ a, vw S (R2 a) = some (d2 a) := by intros; rfl) :
    EvE X w (.Compare e1 [op] [e2] pos) S Ts (m1.bind fun a => m2.bind fun b => opC op (d1 a) (d2 b)) (fun _ => S) (fun b => .v (.bl b)) :=
  (ev_cmp (fun _ => S) (fun b => .v (.bl b)) (fun _ _ d => d) (fun a _ => d1 a) (fun _ b => d2 b) hu h1 h2 hm (fun a _ => v1 a) (fun _ b => v2 b)).cast (bind2 _ _ _)
theorem et_cmpP {op : CmpOp} {d1 : α → D} {d2 : β → D} (hu : X.A.units + 65 < cLine) (h1 : EvE X w e1 S Ts m1 (fun _ => S) R1) (h2 : ∀ a, EvE X w e2 S (Ts ++ [R1 a]) m2 (fun _ => S) R2) (hm : behindInMarks op e2 = false := by rfl) (v1 : ∀ a, vw S (R1 a) = some (d1 a) := by intros; rfl) (v2 : ∀ a, vw S (R2 a) = some (d2 a) := by intros; rfl) :
    EvT X w (.Compare e1 [op] [e2] pos) S Ts (m1.bind fun a => m2.bind fun b => opC op (d1 a) (d2 b)) (fun _ => S) id :=
  (et_cmp (fun _ => S) id (fun _ _ d => d) (fun a _ => d1 a) (fun _ b => d2 b) hu h1 h2 hm (fun a _ => v1 a) (fun _ b => v2 b)).cast (bind2 _ _ _)
theorem ev_ixP {d1 : α → D} {d2 : β → D} (h1 : EvE X w e1 S Ts m1 (fun _ => S) R1) (h2 : ∀ a, EvE X w e2 S (Ts ++ [R1 a]) m2 (fun _ => S) R2) (hp : PlainIx e2 := by intro _ _; rfl) (v1 : ∀ a, vw S (R1 a) = some (d1 a) := by intros; rfl) (v2 : ∀ a, vw S (R2 a) = some (d2 a) := by intros; rfl) :
    EvE X w (.Subscript e1 e2 pos) S Ts (m1.bind fun a => m2.bind fun b => opIx (d1 a) (d2 b)) (fun _ => S) .v :=
  (ev_ix (fun _ => S) .v (fun _ _ d => d) (fun a _ => d1 a) (fun _ b => d2 b) h1 h2 hp (fun a _ => v1 a) (fun _ b => v2 b)).cast (bind2 _ _ _)
theorem ev_ixSP {d1 : α → List D} {d2 : β → D} (h1 : EvE X w e1 S Ts m1 (fun _ => S) R1) (h2 : ∀ a, EvE X w e2 S (Ts ++ [R1 a]) m2 (fun _ => S) R2) (hp : PlainIx e2 := by intro _ _; rfl) (v1 : ∀ a, vs S (R1 a) = some (d1 a) := by intros; rfl) (v2 : ∀ a, vw S (R2 a) = some (d2 a) := by intros; rfl) :
    EvE X w (.Subscript e1 e2 pos) S Ts (m1.bind fun a => m2.bind fun b => opIx (.list (d1 a)) (d2 b)) (fun _ => S) .v :=
  (ev_ixS (fun _ => S) .v (fun _ _ d => d) (fun a _ => d1 a) (fun _ b => d2 b) h1 h2 hp (fun a _ => v1 a) (fun _ b => v2 b)).cast (bind2 _ _ _)
theorem bind1 {α γ : Type} (m1 : Res α) (f : α → Res γ) : (m1.bind fun a => (f a).bind fun d => .ok d) = m1.bind fun a => f a := by
  cases m1 <;> simp [Res.bind]; cases f _ <;> rfl
theorem et_valP {d1 : α → D} (h1 : EvE X w e1 S Ts m1 (fun _ => S) R1) (he : ∀ whole, isTrue e1 X.env whole = (do let v ← whole; standAt e1.pos; holding [v] (truthy v)) := by intro _; rfl) (v1 : ∀ a, vw S (R1 a) = some (d1 a) := by intros; rfl) :
    EvT X w e1 S Ts (m1.bind fun a => truthD (d1 a)) (fun _ => S) id :=
  (et_val (fun _ => S) id (fun _ d => d) d1 h1 he v1).cast (bind1 _ _)
/-- a test whose value is a truth value in the mirror -/
theorem et_notP {b1 : Res Bool} (h1 : EvT X w e1 S Ts b1 (fun _ => S) id) : EvT X w (.UnaryOp .Not e1 pos) S Ts (b1.map (!·)) (fun _ => S) id := by
  intro C σ τ F H Q hK hτ E hq hx hb
  refine et_not (pos := pos) h1 C σ τ F H Q hK hτ E (fun a ha F1 H1 E1 => ?_) (fun x ex => hx x ?_) (fun eb => hb ?_)
  · exact hq (!a) (by rw [ha]; rfl) F1 H1 E1
  · rw [ex]; rfl
  · rw [eb]; rfl
def andR (a b : Res Bool) : Res Bool := a.bind fun x => if x then b else .ok false
def orR (a b : Res Bool) : Res Bool := a.bind fun x => if x then .ok true else b
theorem ew_andP {b1 b2 : Res Bool} {rest : List Expr} (h1 : EvT X w e1 S Ts b1 (fun _ => S) id) (h2 : EvW X w (.BoolOp .And (e2 :: rest) pos) S Ts b2 (fun _ => S) id) : EvW X w (.BoolOp .And (e1 :: e2 :: rest) pos) S Ts (andR b1 b2) (fun _ => S) id := by
  have h := ew_and (fun _ => S) id (fun _ b => b) (fun _ => false) h1 (fun _ => h2)
  have e : (b1.bind fun a => if id a then b2.bind fun b => .ok b else .ok false) = andR b1 b2 := by unfold andR; simp
  rwa [e] at h
theorem ew_orP {b1 b2 : Res Bool} {rest : List Expr} (h1 : EvT X w e1 S Ts b1 (fun _ => S) id) (h2 : EvW X w (.BoolOp .Or (e2 :: rest) pos) S Ts b2 (fun _ => S) id) : EvW X w (.BoolOp .Or (e1 :: e2 :: rest) pos) S Ts (orR b1 b2) (fun _ => S) id := by
  have h := ew_or (fun _ => S) id (fun _ => true) (fun _ b => b) h1 (fun _ => h2)
  have e : (b1.bind fun a => if id a then .ok true else b2.bind fun b => .ok b) = orR b1 b2 := by unfold orR; simp
  rwa [e] at h
def iteR {α : Type} (c : Res Bool) (a b : Res α) : Res α := c.bind fun x => if x then a else b
theorem ev_ifP {c : Res Bool} {ma mb : Res D} (h1 : EvT X w e1 S Ts c (fun _ => S) id) (h2 : EvE X w e2 S Ts ma (fun _ => S) .v) (h3 : EvE X w e3 S Ts mb (fun _ => S) .v) : EvE X w (.IfExp e1 e2 e3 pos) S Ts (iteR c ma mb) (fun _ => S) .v := by
  have h := ev_if (pos := pos) (fun _ => S) .v (fun _ b => b) (fun _ b => b) h1 (fun _ => h2) (fun _ => h3)
  have e : (c.bind fun a => if id a then ma.bind fun b => .ok b else mb.bind fun b => .ok b) = iteR c ma mb := by unfold iteR; simp
  rwa [e] at h
/-- a truth value as data -/
theorem ev_blP {b : Res Bool} (h : EvE X w e1 S Ts b (fun _ => S) (fun b => .v (.bl b))) : EvE X w e1 S Ts (b.map .bl) (fun _ => S) .v := by
  intro C σ τ F H Q hK hτ E hq hx hb
  refine h C σ τ F H Q hK hτ E (fun a ha u F1 H1 E1 => ?_) (fun x ex => hx x ?_) (fun eb => hb ?_)
  · exact hq (.bl a) (by rw [ha]; rfl) u F1 H1 E1
  · rw [ex]; rfl
  · rw [eb]; rfl
/-- a text or number read by its slot, as data -/
theorem ev_dP (d : D) (h : EvE X w e1 S Ts m1 (fun _ => S) R1) : True := trivial
/-! ### calls of built-ins: one argument, two -/
theorem ev_f1 {x : Str} {p : Pos} {id : String} {op : List D → Res D} {d1 : α → D} (hop : ∀ {ds : List D} {d : D} {F H : Hp} {us : List V}, Le F H → op ds = .ok d → RnL X.K F H us ds → ∃ z, Rp X.K F z d ∧ ∀ Q : VK, Q z H → rC X (.builtin id) us H Q) (hne : ∀ {ds : List D} {x : Exn}, op ds = .exc x → False)
    (hm : X.mg x = none) (h1 : EvE X w e1 S Ts m1 (fun _ => S) R1) (hv : bootBuiltins x = some (.builtin id) := by decide +kernel) (v1 : ∀ a, vw S (R1 a) = some (d1 a) := by intros; rfl) (hg : Gl X x := by rfl) (hn : x ≠ "__name__" := by decide) (hdb : (x == ("__debug__" : Str)) = false := by decide)
    (hs : starEach [e1] X.env = [(false, eval e1 X.env)] := by rfl) (hpl : (backTo pos (starEach [] X.env)).any (·.1) = false := by rfl) :
    EvE X w (.Call (.Name x p) [e1] [] pos) S Ts (m1.bind fun a => op [d1 a]) (fun _ => S) .v :=
  (ev_cS (op := op) (fun _ d => d) (fun a => [d1 a]) (fun h => pe_callB callU hg hm hv h hn hdb hs hpl) hop hne (ea_one h1 hs) (fun a => .cons (v1 a) .nil) (fun _ _ => rfl) (fun _ _ => rfl)).cast (bind1 _ _)
theorem ev_t1 {x : Str} {p : Pos} {T : String} {op : List D → Res D} {d1 : α → D} (hop : ∀ {ds : List D} {d : D} {F H : Hp} {us : List V}, Le F H → op ds = .ok d → RnL X.K F H us ds → ∃ z, Rp X.K F z d ∧ ∀ Q : VK, Q z H → rC X (.type T) us H Q) (hne : ∀ {ds : List D} {x : Exn}, op ds = .exc x → False)
    (hm : X.mg x = none) (h1 : EvE X w e1 S Ts m1 (fun _ => S) R1) (hv : bootBuiltins x = some (.type T) := by decide +kernel) (v1 : ∀ a, vw S (R1 a) = some (d1 a) := by intros; rfl) (hg : Gl X x := by rfl) (hn : x ≠ "__name__" := by decide) (hdb : (x == ("__debug__" : Str)) = false := by decide)
    (hs : starEach [e1] X.env = [(false, eval e1 X.env)] := by rfl) (hpl : (backTo pos (starEach [] X.env)).any (·.1) = false := by rfl) :
    EvE X w (.Call (.Name x p) [e1] [] pos) S Ts (m1.bind fun a => op [d1 a]) (fun _ => S) .v :=
  (ev_cS (op := op) (fun _ d => d) (fun a => [d1 a]) (fun h => pe_callTy callU hg hm hv h hn hdb hs hpl) hop hne (ea_one h1 hs) (fun a => .cons (v1 a) .nil) (fun _ _ => rfl) (fun _ _ => rfl)).cast (bind1 _ _)
theorem ev_f2 {x : Str} {p : Pos} {id : String} {op : List D → Res D} {d1 : α → D} {d2 : β → D} (hop : ∀ {ds : List D} {d : D} {F H : Hp} {us : List V}, Le F H → op ds = .ok d → RnL X.K F H us ds → ∃ z, Rp X.K F z d ∧ ∀ Q : VK, Q z H → rC X (.builtin id) us H Q) (hne : ∀ {ds : List D} {x : Exn}, op ds = .exc x → False)
    (hm : X.mg x = none) (h1 : EvE X w e1 S Ts m1 (fun _ => S) R1) (h2 : ∀ a, EvE X w e2 S (Ts ++ [R1 a]) m2 (fun _ => S) R2) (hv : bootBuiltins x = some (.builtin id) := by decide +kernel) (v1 : ∀ a, vw S (R1 a) = some (d1 a) := by intros; rfl) (v2 : ∀ a, vw S (R2 a) = some (d2 a) := by intros; rfl)
    (hg : Gl X x := by rfl) (hn : x ≠ "__name__" := by decide) (hdb : (x == ("__debug__" : Str)) = false := by decide)
    (hs : starEach [e1, e2] X.env = (false, eval e1 X.env) :: starEach [e2] X.env := by rfl) (hs2 : starEach [e2] X.env = [(false, eval e2 X.env)] := by rfl) (hpl : (backTo pos (starEach [e2] X.env)).any (·.1) = false := by rfl) :
    EvE X w (.Call (.Name x p) [e1, e2] [] pos) S Ts (m1.bind fun a => m2.bind fun b => op [d1 a, d2 b]) (fun _ => S) .v := by
  have h := ev_cS (γ := D) (S' := fun _ => S) (R := .v) (op := op) (fun _ d => d) (fun a : α × β => [d1 a.1, d2 a.2]) (fun h => pe_callB (p := p) (pos := pos) callU hg hm hv h hn hdb hs hpl) hop hne
    (ea_cons (Rs := fun a : α × β => [R1 a.1, R2 a.2]) (fun _ => S) (fun a b => (a, b)) h1 (fun a => ea_one (h2 a) hs2) (fun _ _ => rfl) (fun _ _ => rfl) hs) (fun a => .cons (v1 a.1) (.cons (v2 a.2) .nil)) (fun _ _ => rfl) (fun _ _ => rfl)
  refine h.cast ?_
  cases m1 <;> simp [Res.bind]
  cases m2 <;> simp [Res.bind]
  cases op _ <;> rfl
end
theorem len_ne {ds : List D} {x : Exn} (h : opLen ds = .exc x) : False := by unfold opLen at h; split at h <;> (first | cases h | (split at h <;> cases h))
theorem abs_ne {ds : List D} {x : Exn} (h : opAbs ds = .exc x) : False := by unfold opAbs at h; split at h <;> cases h
theorem max_ne {ds : List D} {x : Exn} (h : opMax ds = .exc x) : False := by unfold opMax at h; split at h <;> cases h
theorem min_ne {ds : List D} {x : Exn} (h : opMin ds = .exc x) : False := by unfold opMin at h; split at h <;> cases h
theorem int_ne {ds : List D} {x : Exn} (h : opInt ds = .exc x) : False := by unfold opInt at h; split at h <;> cases h
theorem sum_ne {ds : List D} {x : Exn} (h : opSum ds = .exc x) : False := by unfold opSum at h; split at h <;> (first | cases h | (split at h <;> cases h))
theorem all_ne {ds : List D} {x : Exn} (h : opAll ds = .exc x) : False := by unfold opAll at h; split at h <;> (first | cases h | (split at h <;> cases h))
theorem any_ne {ds : List D} {x : Exn} (h : opAny ds = .exc x) : False := by unfold opAny at h; split at h <;> (first | cases h | (split at h <;> cases h))
theorem repr_ne {ds : List D} {x : Exn} (h : opRepr ds = .exc x) : False := by unfold opRepr at h; split at h <;> (first | cases h | (split at h <;> cases h))
end G
namespace G
open PySem L2
section
variable {α β γ Ω : Type} {X : Cx} {w : Wx} {S Ts : List Sl} {e e1 e2 ie : Expr} {m1 : Res α} {S1 : α → List Sl} {R1 : α → Sl} {m2 : α → Res β} {S2 : α → β → List Sl} {R2 : α → β → Sl} {rest : List Stmt} {K : Ω → Out} {x y : Str} {px py pos spos : Pos}
/-- return e, the slots told more weakly -/
theorem es_retW {Sr : α → List Sl} (pk : α → Ω) (h1 : EvE X w e S Ts m1 S1 R1) (wk : ∀ a, WL (S1 a) (Sr a)) (h : ∀ a, K (pk a) = .rt (Sr a) (R1 a) := by intros; rfl) : EvS X w (.Return (some e) pos :: rest) S Ts (m1.bind fun a => .ok (pk a)) K := by
  intro C σ τ F H D hK hτ E hq hx hb
  refine ⟨_, pss_cons (ps_ret can) canB, ?_⟩
  refine h1 C σ τ F H _ hK hτ E (fun a ha u F1 H1 E1 => ?_) (fun x ex => hx x (exc_bind ex) σ) (fun eb => hb (bad_bind eb))
  rw [ok_bind ha] at hq
  have := hq (pk a) rfl
  rw [h] at this
  exact this σ u F1 H1 (E1.wk ((wl_pre (wk a)).app (WL.refl _)))
/-! ### a slot of unknown data is a list -/
def listD : D → Res (List D)
  | .list xs => .ok xs
  | _ => .bad
def dictD : D → Res (List (D × D))
  | .dict xs => .ok xs
  | _ => .bad
theorem listD_ok {d : D} {xs : List D} (h : listD d = .ok xs) : d = .list xs := by cases d <;> cases h; rfl
theorem listD_ne {d : D} {z : Exn} (h : listD d = .exc z) : False := by cases d <;> cases h
theorem es_lrd (i : Nat) {d : D} {sts : List Stmt} {mR : List D → Res Ω} (h : ∀ xs, EvS X w sts (S.set i (.rd (.list xs))) Ts (mR xs) K) (hi : S[i]? = some (.rd d) := by rfl) : EvS X w sts S Ts ((listD d).bind mR) K := by
  intro C σ τ F H D hK hτ E hq hx hb
  cases ed : listD d with
  | bad => rw [ed] at hb; exact absurd rfl hb
  | exc z => exact (listD_ne ed).elim
  | ok xs =>
    rw [ed] at hq hx hb
    have := listD_ok ed
    subst this
    have hl := lt_of_get hi
    have e : S.set i (.rd (.list xs)) = S := by
      apply List.ext_getElem?
      intro j
      by_cases hj : i = j
      · subst hj; rw [List.getElem?_set_self hl, hi]
      · rw [List.getElem?_set_ne hj]
    exact h xs C σ τ F H D hK hτ (by rw [e]; exact E) hq hx hb
theorem set_eq {L : List Sl} {i : Nat} {s : Sl} (h : L[i]? = some s) : L.set i s = L := by
  apply List.ext_getElem?
  intro j
  by_cases hj : i = j
  · subst hj; rw [List.getElem?_set_self (lt_of_get h), h]
  · rw [List.getElem?_set_ne hj]
theorem es_lv (i : Nat) {d : D} {sts : List Stmt} {mR : List D → Res Ω} (h : ∀ xs, EvS X w sts (S.set i (.v (.list xs))) Ts (mR xs) K) (hi : S[i]? = some (.v d) := by rfl) : EvS X w sts S Ts ((listD d).bind mR) K := by
  intro C σ τ F H D hK hτ E hq hx hb
  cases ed : listD d with
  | bad => rw [ed] at hb; exact absurd rfl hb
  | exc z => exact (listD_ne ed).elim
  | ok xs =>
    rw [ed] at hq hx hb
    have := listD_ok ed
    subst this
    exact h xs C σ τ F H D hK hτ (by rw [set_eq hi]; exact E) hq hx hb
/-- .. within an expression -/
theorem ev_lrd (i : Nat) {d : D} {mR : List D → Res α} {S' : α → List Sl} {R : α → Sl} (h : ∀ xs, EvE X w e (S.set i (.rd (.list xs))) Ts (mR xs) S' R) (hi : S[i]? = some (.rd d) := by rfl) : EvE X w e S Ts ((listD d).bind mR) S' R := by
  intro C σ τ F H Q hK hτ E hq hx hb
  cases ed : listD d with
  | bad => rw [ed] at hb; exact absurd rfl hb
  | exc z => exact (listD_ne ed).elim
  | ok xs =>
    rw [ed] at hq hx hb
    have := listD_ok ed
    subst this
    exact h xs C σ τ F H Q hK hτ (by rw [set_eq hi]; exact E) hq hx hb
theorem et_lrd (i : Nat) {d : D} {mR : List D → Res α} {S' : α → List Sl} {R : α → Bool} (h : ∀ xs, EvT X w e (S.set i (.rd (.list xs))) Ts (mR xs) S' R) (hi : S[i]? = some (.rd d) := by rfl) : EvT X w e S Ts ((listD d).bind mR) S' R := by
  intro C σ τ F H Q hK hτ E hq hx hb
  cases ed : listD d with
  | bad => rw [ed] at hb; exact absurd rfl hb
  | exc z => exact (listD_ne ed).elim
  | ok xs =>
    rw [ed] at hq hx hb
    have := listD_ok ed
    subst this
    exact h xs C σ τ F H Q hK hτ (by rw [set_eq hi]; exact E) hq hx hb
/-- an answer that is a list -/
theorem ev_lc {d : α → D} (h : EvE X w e S Ts m1 (fun _ => S) R1) (hR : ∀ a, R1 a = .v (d a) := by intros; rfl) : EvE X w e S Ts (m1.bind fun a => listD (d a)) (fun _ => S) (fun xs => .v (.list xs)) := by
  intro C σ τ F H Q hK hτ E hq hx hb
  refine h C σ τ F H Q hK hτ E (fun a ha u F1 H1 E1 => ?_) (fun x ex => hx x (exc_bind ex)) (fun eb => hb (bad_bind eb))
  rw [ok_bind ha] at hq hb
  cases ed : listD (d a) with
  | bad => exact absurd ed hb
  | exc z => exact (listD_ne ed).elim
  | ok xs =>
    refine hq xs ed u F1 H1 ?_
    rw [hR, listD_ok ed] at E1
    exact E1
/-- a, b = e1, e2 -/
theorem es_par (i j : Nat) {mR : α → β → Res Ω} (h1 : EvE X w e1 S Ts m1 S1 R1) (h2 : ∀ a, EvE X w e2 (S1 a) (Ts ++ [R1 a]) (m2 a) (S2 a) (R2 a)) (h3 : ∀ a b, EvS X w rest (((S2 a b).set j (R2 a b)).set i (R1 a)) Ts (mR a b) K) (nd : X.N.Nodup) (hc : X.calm = true) (hij : i ≠ j)
    (hi : ∀ a b, i < (S2 a b).length := by intros; exact Nat.le_of_ble_eq_true rfl) (hj : ∀ a b, j < (S2 a b).length := by intros; exact Nat.le_of_ble_eq_true rfl) (hR1 : ∀ a, notAl (R1 a) = true := by intros; rfl) (hR2 : ∀ a b, notAl (R2 a b) = true := by intros; rfl)
    (hal : ∀ a b, (S2 a b ++ Ts).all (fun s => noalk i s && noalk j s) = true := by intros; rfl) (hNi : X.N[i]? = some x := by rfl) (hNj : X.N[j]? = some y := by rfl)
    {pt pt2 : Pos} {kt k2 : Nat} (hx : X.env.scope.names.lookup x = some .local := by rfl) (hy : X.env.scope.names.lookup y = some .local := by rfl)
    (hw : swappedStores [.Tuple [.Name x px, .Name y py] kt pt] (.Tuple [e1, e2] k2 pt2) X.env = pure (some [x, y]) := by rfl) (hs : swapsWithSole [.Tuple [.Name x px, .Name y py] kt pt] (.Tuple [e1, e2] k2 pt2) pos.line X.env = pure false := by rfl)
    (hs1 : starEach [e1, e2] X.env = (false, eval e1 X.env) :: starEach [e2] X.env := by rfl) (hs2 : starEach [e2] X.env = (false, eval e2 X.env) :: starEach [] X.env := by rfl) :
    EvS X w (.Assign [.Tuple [.Name x px, .Name y py] kt pt] (.Tuple [e1, e2] k2 pt2) pos :: rest) S Ts (m1.bind fun a => (m2 a).bind fun b => mR a b) K := by
  intro C σ τ F H D hK hτ E hq hex hb
  refine ⟨_, pss_cons (ps_par hc nd hNi hNj hij hx hy (pa_cons can (pa_cons can pa_nil hs2) hs1) hw hs) canB, ?_⟩
  refine ev2 (fun a b => mR a b) h1 h2 hK hτ E _ (fun a b ha hb2 u v F1 H1 E1 => ?_) (fun x ex => hex x ?_ σ) ?_
  · rw [ok_bind ha, ok_bind hb2] at hq hex hb
    refine ⟨u, v, rfl, ?_⟩
    have n1 := notAl.no (hR1 a)
    have n2 := notAl.no (hR2 a b)
    have hl := nil_len E1.pop.pop hτ
    have g1 := hi a b
    have g2 := hj a b
    have hal' := hal a b
    rw [List.all_eq_true] at hal'
    have lk : ∀ {s : Sl} {k : Nat}, noal s = true → noalk k s = true := fun {s k} h => by cases s <;> simp [noal, noalk] at h ⊢
    have lt1 : σ.length = (S2 a b).length := hl
    have E2 := E1.setv (k := j) (by simp; omega) n2.1 n2.2 (by
      rw [List.all_eq_true]
      intro s hs
      rcases List.mem_append.mp hs with h | h
      · have := hal' s h
        rw [Bool.and_eq_true] at this
        exact this.2
      · rw [List.mem_singleton.mp h]; exact lk n1.2)
    have eL : (S2 a b ++ Ts ++ [R1 a]).set j (R2 a b) = (S2 a b).set j (R2 a b) ++ Ts ++ [R1 a] := by rw [List.set_append_left _ _ (by simp; omega), List.set_append_left _ _ g2]
    have eρ : (σ ++ τ ++ [some u]).set j (some v) = σ.set j (some v) ++ τ ++ [some u] := by rw [List.set_append_left _ _ (by simp; omega), List.set_append_left _ _ (by omega)]
    rw [eL, eρ] at E2
    have E3 := E2.setv (k := i) (by simp; omega) n1.1 n1.2 (by
      rw [List.all_eq_true]
      intro s hs
      rcases List.mem_append.mp hs with h | h
      · rcases List.mem_or_eq_of_mem_set h with h | h
        · have := hal' s (List.mem_append_left _ h)
          rw [Bool.and_eq_true] at this
          exact this.1
        · rw [h]; exact lk n2.2
      · have := hal' s (List.mem_append_right _ h)
        rw [Bool.and_eq_true] at this
        exact this.1)
    have eL2 : ((S2 a b).set j (R2 a b) ++ Ts).set i (R1 a) = ((S2 a b).set j (R2 a b)).set i (R1 a) ++ Ts := List.set_append_left _ _ (by simp; omega)
    have eρ2 : (σ.set j (some v) ++ τ).set i (some u) = (σ.set j (some v)).set i (some u) ++ τ := List.set_append_left _ _ (by simp; omega)
    rw [eL2, eρ2] at E3
    rw [List.set_comm _ _ hij]
    exact h3 a b C _ τ F1 H1 D hK hτ E3 hq hex hb
  · exact ex
  · exact hb
end
end G
namespace G
open PySem L2
section
variable {α β γ Ω Ω' ε : Type} {X : Cx} {w : Wx} {S Ts : List Sl} {tg iter t : Expr} {body rest : List Stmt} {mi : Res α} {Si : α → List Sl} {Rs : α → List Sl} {ss : α → List Src} {ds : α → List D} {SJ : β → List Sl} {K : Ω → Out} {pos px : Pos}
theorem EvS.map {sts : List Stmt} {m : Res Ω} {K : Ω → Out} {K' : Ω' → Out} (f : Ω → Ω') (h : EvS X w sts S Ts m K) (hk : ∀ o, K' (f o) = K o) : EvS X w sts S Ts (m.map f) K' := fun C σ τ F H D hK hτ E hq hx hb => by
  refine h C σ τ F H D hK hτ E (fun o ho => ?_) (fun x ex => hx x ?_) (fun eb => hb ?_)
  · have := hq (f o) (by rw [ho]; rfl)
    rwa [hk] at this
  · rw [ex]; rfl
  · rw [eb]; rfl
theorem EvS.cast {sts : List Stmt} {m m' : Res Ω} {K : Ω → Out} (h : EvS X w sts S Ts m K) (e : m = m') : EvS X w sts S Ts m' K := e ▸ h
def foldR {β : Type} (body : β → D → Res β) : List D → β → Res β
  | [], b => .ok b
  | d :: ds, b => (body b d).bind (foldR body ds)
theorem forD_fold {β : Type} {f : β → D → Res (β ⊕ Ex β Empty)} {body : β → D → Res β} (hf : ∀ b d, f b d = (body b d).map Sum.inl) : ∀ (ds : List D) (b : β), forD f ds b = (foldR body ds b).map Sum.inl
  | [], b => rfl
  | d :: ds, b => by
    simp only [forD, foldR, hf]
    cases h : body b d with
    | ok b' => simp only [Res.map, Res.bind_ok]; exact forD_fold hf ds b'
    | exc x => rfl
    | bad => rfl
def KN : Empty → Out := fun o => nomatch o
/-- for: no way out -/
theorem es_forG {mg : β → D → Res γ} {Sg : β → D → γ → List Sl} {mB : β → D → γ → Res β} {ks : List Nat} {mR : β → Res Ω} (SJ : β → List Sl) (b0 : α → β)
    (hp : PassesOwn (model X.prog X.w) X.A X.env X.xe) (hc : X.calm = true) (hi : EvI X w tg iter S Ts mi Si Rs ss ds) (wk : ∀ a, WL (Si a) (SJ (b0 a)))
    (hg : ∀ b d, EvG X tg (SJ b) d (mg b d) (Sg b d) ks) (hB : ∀ a b d g, EvS X w body (Sg b d g) (Ts ++ Rs a) (mB b d g) (fun b => .go (SJ b))) (hR : ∀ b, EvS X w rest (SJ b) Ts (mR b) K)
    (hv : ∀ a b, pvs (SJ b) (Rs a) (ss a) := by intros; repeat' (first | trivial | rfl | constructor)) (hal : ∀ a b, (SJ b ++ (Ts ++ Rs a)).all (fun s => ks.all (noalk · s)) = true := by intros; rfl)
    (hf : ∀ x, foldedSetIterable iter X.env x = pure x := by intro _; rfl) :
    EvS X w (.For tg iter body [] pos :: rest) S Ts (mi.bind fun a => (foldR (fun b d => (mg b d).bind (mB b d)) (ds a) (b0 a)).bind mR) K := by
  have h := es_for (KE := KN) (K := K) (mB := fun b d g => (mB b d g).map Sum.inl) (mR := mR) (pos := pos) b0 (fun o => nomatch o) hp hc hi wk hg (fun a b d g => (hB a b d g).map Sum.inl fun _ => rfl) hR hv hal (fun o => nomatch o) (fun o => nomatch o) hf
  refine h.cast ?_
  congr 1
  funext a
  rw [forD_fold (body := fun b d => (mg b d).bind (mB b d))]
  · cases foldR (fun b d => (mg b d).bind (mB b d)) (ds a) (b0 a) <;> rfl
  · intro b d
    cases mg b d <;> rfl
theorem mg_ok {mB : β → D → Unit → Res γ} : (fun b d => (Res.ok ()).bind (mB b d)) = fun b d => mB b d () := rfl
/-- for name in ..: no way out -/
theorem es_forF {x : Str} {mB : β → D → Res β} {mR : β → Res Ω} (j : Nat) (SJ : β → List Sl) (b0 : α → β) (nd : X.N.Nodup)
    (hp : PassesOwn (model X.prog X.w) X.A X.env X.xe) (hc : X.calm = true) (hi : EvI X w (.Name x px) iter S Ts mi Si Rs ss ds) (wk : ∀ a, WL (Si a) (SJ (b0 a)))
    (hB : ∀ a b d, EvS X w body ((SJ b).set j (.v d)) (Ts ++ Rs a) (mB b d) (fun b => .go (SJ b))) (hR : ∀ b, EvS X w rest (SJ b) Ts (mR b) K)
    (hj : ∀ b, j < (SJ b).length := by intros; exact Nat.le_of_ble_eq_true rfl) (hN : X.N[j]? = some x := by rfl) (hl : Loc X.env.scope x := by first | exact Or.inl rfl | exact Or.inr rfl) (hfn : X.fn x = true ∨ X.env.scope.names.lookup x = some .local := by first | exact .inl rfl | exact .inr rfl)
    (hv : ∀ a b, pvs (SJ b) (Rs a) (ss a) := by intros; repeat' (first | trivial | rfl | constructor)) (hal : ∀ a b, (SJ b ++ (Ts ++ Rs a)).all (fun s => [j].all (noalk · s)) = true := by intros; rfl)
    (hf : ∀ x, foldedSetIterable iter X.env x = pure x := by intro _; rfl) :
    EvS X w (.For (.Name x px) iter body [] pos :: rest) S Ts (mi.bind fun a => (foldR mB (ds a) (b0 a)).bind mR) K :=
  es_forG (mg := fun _ _ => .ok ()) (mB := fun b d _ => mB b d) SJ b0 hp hc hi wk (fun b d => eg_name j nd (hj b) hN hl hfn) (fun a b d _ => hB a b d) hR hv hal hf
/-- for name in ..: with ways out -/
theorem es_forN {x : Str} {KE : ε → Out} {mB : β → D → Res (β ⊕ Ex β ε)} {mR : β → Res Ω} (j : Nat) (SJ : β → List Sl) (b0 : α → β) (emb : ε → Ω) (nd : X.N.Nodup)
    (hp : PassesOwn (model X.prog X.w) X.A X.env X.xe) (hc : X.calm = true) (hi : EvI X w (.Name x px) iter S Ts mi Si Rs ss ds) (wk : ∀ a, WL (Si a) (SJ (b0 a)))
    (hB : ∀ a b d, EvS X w body ((SJ b).set j (.v d)) (Ts ++ Rs a) (mB b d) (turnK SJ KE)) (hR : ∀ b, EvS X w rest (SJ b) Ts (mR b) K)
    (hj : ∀ b, j < (SJ b).length := by intros; exact Nat.le_of_ble_eq_true rfl) (hN : X.N[j]? = some x := by rfl) (hl : Loc X.env.scope x := by first | exact Or.inl rfl | exact Or.inr rfl) (hfn : X.fn x = true ∨ X.env.scope.names.lookup x = some .local := by first | exact .inl rfl | exact .inr rfl)
    (hv : ∀ a b, pvs (SJ b) (Rs a) (ss a) := by intros; repeat' (first | trivial | rfl | constructor)) (hal : ∀ a b, (SJ b ++ (Ts ++ Rs a)).all (fun s => [j].all (noalk · s)) = true := by intros; rfl)
    (hs : ∀ o, ∃ S R, KE o = .rt S R ∧ noal R = true := by intro o; first | exact ⟨_, _, rfl, rfl⟩ | exact ⟨_, _, rfl, optS_noal _⟩) (hlk : ∀ o, K (emb o) = KE o := by intro o; rfl)
    (hf : ∀ x, foldedSetIterable iter X.env x = pure x := by intro _; rfl) :
    EvS X w (.For (.Name x px) iter body [] pos :: rest) S Ts (mi.bind fun a => (forD mB (ds a) (b0 a)).bind fun r => match r with | .inl b => mR b | .inr (.brk b) => mR b | .inr (.ret o) => .ok (emb o)) K :=
  es_for (mg := fun _ _ => .ok ()) (mB := fun b d _ => mB b d) b0 emb hp hc hi wk (fun b d => eg_name j nd (hj b) hN hl hfn) (fun a b d _ => hB a b d) hR hv hal hs hlk hf
def endR {β ε Ω : Type} (mR : β → Res Ω) (emb : ε → Ω) : β ⊕ Ex β ε → Res Ω
  | .inl b => mR b
  | .inr (.brk b) => mR b
  | .inr (.ret o) => .ok (emb o)
theorem es_forE {x : Str} {KE : ε → Out} {mB : β → D → Res (β ⊕ Ex β ε)} {mR : β → Res Ω} (j : Nat) (SJ : β → List Sl) (b0 : α → β) (emb : ε → Ω) (nd : X.N.Nodup)
    (hp : PassesOwn (model X.prog X.w) X.A X.env X.xe) (hc : X.calm = true) (hi : EvI X w (.Name x px) iter S Ts mi Si Rs ss ds) (wk : ∀ a, WL (Si a) (SJ (b0 a)))
    (hB : ∀ a b d, EvS X w body ((SJ b).set j (.v d)) (Ts ++ Rs a) (mB b d) (turnK SJ KE)) (hR : ∀ b, EvS X w rest (SJ b) Ts (mR b) K)
    (hj : ∀ b, j < (SJ b).length := by intros; exact Nat.le_of_ble_eq_true rfl) (hN : X.N[j]? = some x := by rfl) (hl : Loc X.env.scope x := by first | exact Or.inl rfl | exact Or.inr rfl) (hfn : X.fn x = true ∨ X.env.scope.names.lookup x = some .local := by first | exact .inl rfl | exact .inr rfl)
    (hv : ∀ a b, pvs (SJ b) (Rs a) (ss a) := by intros; repeat' (first | trivial | rfl | constructor)) (hal : ∀ a b, (SJ b ++ (Ts ++ Rs a)).all (fun s => [j].all (noalk · s)) = true := by intros; rfl)
    (hs : ∀ o, ∃ S R, KE o = .rt S R ∧ noal R = true := by intro o; first | exact ⟨_, _, rfl, rfl⟩ | exact ⟨_, _, rfl, optS_noal _⟩) (hlk : ∀ o, K (emb o) = KE o := by intro o; rfl)
    (hf : ∀ x, foldedSetIterable iter X.env x = pure x := by intro _; rfl) :
    EvS X w (.For (.Name x px) iter body [] pos :: rest) S Ts (mi.bind fun a => (forD mB (ds a) (b0 a)).bind (endR mR emb)) K := by
  refine (es_forN (pos := pos) j SJ b0 emb nd hp hc hi wk hB hR hj hN hl hfn hv hal hs hlk hf).cast ?_
  congr 1
theorem es_forGE {KE : ε → Out} {mg : β → D → Res γ} {Sg : β → D → γ → List Sl} {mB : β → D → γ → Res (β ⊕ Ex β ε)} {ks : List Nat} {mR : β → Res Ω} (SJ : β → List Sl) (b0 : α → β) (emb : ε → Ω)
    (hp : PassesOwn (model X.prog X.w) X.A X.env X.xe) (hc : X.calm = true) (hi : EvI X w tg iter S Ts mi Si Rs ss ds) (wk : ∀ a, WL (Si a) (SJ (b0 a)))
    (hg : ∀ b d, EvG X tg (SJ b) d (mg b d) (Sg b d) ks) (hB : ∀ a b d g, EvS X w body (Sg b d g) (Ts ++ Rs a) (mB b d g) (turnK SJ KE)) (hR : ∀ b, EvS X w rest (SJ b) Ts (mR b) K)
    (hv : ∀ a b, pvs (SJ b) (Rs a) (ss a) := by intros; repeat' (first | trivial | rfl | constructor)) (hal : ∀ a b, (SJ b ++ (Ts ++ Rs a)).all (fun s => ks.all (noalk · s)) = true := by intros; rfl)
    (hs : ∀ o, ∃ S R, KE o = .rt S R ∧ noal R = true := by intro o; first | exact ⟨_, _, rfl, rfl⟩ | exact ⟨_, _, rfl, optS_noal _⟩) (hl : ∀ o, K (emb o) = KE o := by intro o; rfl)
    (hf : ∀ x, foldedSetIterable iter X.env x = pure x := by intro _; rfl) :
    EvS X w (.For tg iter body [] pos :: rest) S Ts (mi.bind fun a => (forD (fun b d => (mg b d).bind (mB b d)) (ds a) (b0 a)).bind (endR mR emb)) K := by
  refine (es_for (pos := pos) b0 emb hp hc hi wk hg hB hR hv hal hs hl hf).cast ?_
  congr 1
/-- two names; a name and two -/
def tup12 : D → Res (D × D × D)
  | .tup [a, .tup [b, c]] => .ok (a, b, c)
  | _ => .bad
theorem EvG.cast {tg : Expr} {S : List Sl} {d : D} {m m' : Res α} {S' : α → List Sl} {ks : List Nat} (h : EvG X tg S d m S' ks) (e : m = m') : EvG X tg S d m' S' ks := e ▸ h
theorem EvG.map {tg : Expr} {S : List Sl} {d : D} {m : Res α} {S' : α → List Sl} {S'' : γ → List Sl} {ks : List Nat} (f : α → γ) (h : EvG X tg S d m S' ks) (e : ∀ a, S'' (f a) = S' a) : EvG X tg S d (m.map f) S'' ks := by
  intro C Ts σ τ F H u Q hK hτ E r ha hq hb
  refine h C Ts σ τ F H u Q hK hτ E r ha (fun a h σ' O E' => hq (f a) (by rw [h]; rfl) σ' O (by rw [e]; exact E')) (fun eb => hb (by rw [eb]; rfl))
theorem eg_n2 {x y : Str} {py pt : Pos} {k : Nat} {d : D} (i j : Nat) (nd : X.N.Nodup) (hc : X.calm = true) (hij : i ≠ j := by decide) (hal : S.all noal = true := by rfl) (hi : i < S.length := by exact Nat.le_of_ble_eq_true rfl) (hj : j < S.length := by exact Nat.le_of_ble_eq_true rfl)
    (hN : X.N[i]? = some x := by rfl) (hN2 : X.N[j]? = some y := by rfl) (hl : Loc X.env.scope x := by first | exact Or.inl rfl | exact Or.inr rfl) (hl2 : Loc X.env.scope y := by first | exact Or.inl rfl | exact Or.inr rfl)
    (hf : X.fn x = true ∨ X.env.scope.names.lookup x = some .local := by first | exact .inl rfl | exact .inr rfl) (hf2 : X.fn y = true ∨ X.env.scope.names.lookup y = some .local := by first | exact .inl rfl | exact .inr rfl)
    (hn : (assignEach [.Name x px, .Name y py] X.env).length = 2 := by rfl) (hst : (assignEach [.Name x px, .Name y py] X.env).findIdx? (·.1) = none := by rfl)
    (hs1 : (assignEach [.Name x px, .Name y py] X.env).map (·.2) = assign (.Name x px) X.env :: (assignEach [.Name y py] X.env).map (·.2) := by rfl) (hs2 : (assignEach [.Name y py] X.env).map (·.2) = assign (.Name y py) X.env :: (assignEach [] X.env).map (·.2) := by rfl) :
    EvG X (.Tuple [.Name x px, .Name y py] k pt) S d (tup2 d) (fun p => (S.set i (.v p.1)).set j (.v p.2)) [i, j] := by
  have noset : ∀ (a : D), (S.set i (.v a)).all noal = true := fun a => by
    rw [List.all_eq_true] at hal ⊢
    intro s hs
    rcases List.mem_or_eq_of_mem_set hs with h | h
    · exact hal s h
    · rw [h]; rfl
  have h := eg_tup2 (d := d) (k := k) (pos := pt) (S' := fun p : D × D => (S.set i (.v p.1)).set j (.v p.2)) (pk := fun a b _ _ => (a, b)) hc (fun a => eg_name (S := S) (pos := px) (d := a) i nd hi hN hl hf) (fun a b _ => eg_name (pos := py) (d := b) j nd (by simpa using hj) hN2 hl2 hf2) (fun a _ => noset a) (fun _ _ _ _ => rfl) hn hst hs1 hs2
  refine h.cast ?_
  cases tup2 d <;> rfl
theorem eg_n12 {x y z : Str} {py pz pt pt2 : Pos} {k k2 : Nat} {d : D} (i j l : Nat) (nd : X.N.Nodup) (hc : X.calm = true) (hij : i ≠ j := by decide) (hjl : j ≠ l := by decide) (hal : S.all noal = true := by rfl) (hi : i < S.length := by exact Nat.le_of_ble_eq_true rfl) (hj : j < S.length := by exact Nat.le_of_ble_eq_true rfl) (hl0 : l < S.length := by exact Nat.le_of_ble_eq_true rfl)
    (hN : X.N[i]? = some x := by rfl) (hN2 : X.N[j]? = some y := by rfl) (hN3 : X.N[l]? = some z := by rfl) (hl : Loc X.env.scope x := by first | exact Or.inl rfl | exact Or.inr rfl) (hl2 : Loc X.env.scope y := by first | exact Or.inl rfl | exact Or.inr rfl) (hl3 : Loc X.env.scope z := by first | exact Or.inl rfl | exact Or.inr rfl)
    (hf : X.fn x = true ∨ X.env.scope.names.lookup x = some .local := by first | exact .inl rfl | exact .inr rfl) (hf2 : X.fn y = true ∨ X.env.scope.names.lookup y = some .local := by first | exact .inl rfl | exact .inr rfl) (hf3 : X.fn z = true ∨ X.env.scope.names.lookup z = some .local := by first | exact .inl rfl | exact .inr rfl)
    (hn : (assignEach [.Name x px, .Tuple [.Name y py, .Name z pz] k2 pt2] X.env).length = 2 := by rfl) (hst : (assignEach [.Name x px, .Tuple [.Name y py, .Name z pz] k2 pt2] X.env).findIdx? (·.1) = none := by rfl)
    (hs1 : (assignEach [.Name x px, .Tuple [.Name y py, .Name z pz] k2 pt2] X.env).map (·.2) = assign (.Name x px) X.env :: (assignEach [.Tuple [.Name y py, .Name z pz] k2 pt2] X.env).map (·.2) := by rfl) (hs2 : (assignEach [.Tuple [.Name y py, .Name z pz] k2 pt2] X.env).map (·.2) = assign (.Tuple [.Name y py, .Name z pz] k2 pt2) X.env :: (assignEach [] X.env).map (·.2) := by rfl)
    (hn' : (assignEach [.Name y py, .Name z pz] X.env).length = 2 := by rfl) (hst' : (assignEach [.Name y py, .Name z pz] X.env).findIdx? (·.1) = none := by rfl)
    (hs1' : (assignEach [.Name y py, .Name z pz] X.env).map (·.2) = assign (.Name y py) X.env :: (assignEach [.Name z pz] X.env).map (·.2) := by rfl) (hs2' : (assignEach [.Name z pz] X.env).map (·.2) = assign (.Name z pz) X.env :: (assignEach [] X.env).map (·.2) := by rfl) :
    EvG X (.Tuple [.Name x px, .Tuple [.Name y py, .Name z pz] k2 pt2] k pt) S d (tup12 d) (fun p => ((S.set i (.v p.1)).set j (.v p.2.1)).set l (.v p.2.2)) [i, j, l] := by
  have noset : ∀ (a : D), (S.set i (.v a)).all noal = true := fun a => by
    rw [List.all_eq_true] at hal ⊢
    intro s hs
    rcases List.mem_or_eq_of_mem_set hs with h | h
    · exact hal s h
    · rw [h]; rfl
  have h := eg_tup2 (d := d) (k := k) (pos := pt) (S' := fun p : D × D × D => ((S.set i (.v p.1)).set j (.v p.2.1)).set l (.v p.2.2)) (pk := fun a _ _ y => (a, y)) hc (fun a => eg_name (S := S) (pos := px) (d := a) i nd hi hN hl hf) (fun a b _ => eg_n2 (S := S.set i (.v a)) (d := b) (px := py) (py := pz) (pt := pt2) (k := k2) j l nd hc hjl (noset a) (by simpa using hj) (by simpa using hl0) hN2 hN3 hl2 hl3 hf2 hf3 hn' hst' hs1' hs2') (fun a _ => noset a) (fun _ _ _ _ => rfl) hn hst hs1 hs2
  refine h.cast ?_
  unfold tup12
  split
  · rfl
  · rename_i hno
    cases d <;> try rfl
    rename_i ds
    match ds, hno with
    | [], _ => rfl
    | [a], _ => rfl
    | a :: b :: c :: ds, _ => rfl
    | [a, b], hno =>
      show (tup2 b).bind _ = _
      cases b <;> try rfl
      rename_i es
      match es, hno with
      | [], _ => rfl
      | [a], _ => rfl
      | a :: b :: c :: ds, _ => rfl
      | [b, c], hno => exact (hno a b c rfl).elim
/-- while: no way out -/
def whileR {β : Type} (cond : β → Res Bool) (body : β → Res β) : Nat → β → Res β
  | 0, _ => .bad
  | n + 1, b => (cond b).bind fun c => if c then (body b).bind (whileR cond body n) else .ok b
theorem whileD_R {β : Type} {cond : β → Res Bool} {body : β → Res β} : ∀ (n : Nat) (b : β), whileD (ε := Empty) cond (fun b => (body b).map Sum.inl) n b = (whileR cond body n b).map Sum.inl
  | 0, b => rfl
  | n + 1, b => by
    simp only [whileD, whileR]
    cases cond b with
    | ok c =>
      cases c with
      | true =>
        simp only [Res.bind_ok, if_true]
        cases h : body b with
        | ok b' => simp only [Res.map, Res.bind_ok]; exact whileD_R n b'
        | exc x => rfl
        | bad => rfl
      | false => rfl
    | exc x => rfl
    | bad => rfl
theorem es_whileF {cond : β → Res Bool} {mb : β → Res β} {mR : β → Res Ω} (fuel : Nat) (SJ : β → List Sl) (b0 : β) (wk : WL S (SJ b0)) (hp : PassesOwn (model X.prog X.w) X.A X.env X.xe)
    (ht : ∀ b, EvT X w t (SJ b) Ts (cond b) (fun _ => SJ b) id) (hb : ∀ b, EvS X w body (SJ b) Ts (mb b) (fun b => .go (SJ b))) (hR : ∀ b, EvS X w rest (SJ b) Ts (mR b) K) :
    EvS X w (.While t body [] pos :: rest) S Ts ((whileR cond mb fuel b0).bind mR) K := by
  have h := es_while (KE := KN) (K := K) (mb := fun b => (mb b).map Sum.inl) (pos := pos) fuel b0 (fun o => nomatch o) wk hp ht (fun b => (hb b).map Sum.inl fun _ => rfl) hR (fun o => nomatch o) (fun o => nomatch o)
  refine h.cast ?_
  rw [whileD_R]
  cases whileR cond mb fuel b0 <;> rfl
def endW {β ε Ω : Type} (mR : β → Res Ω) (emb : ε → Ω) : β ⊕ ε → Res Ω
  | .inl b => mR b
  | .inr o => .ok (emb o)
theorem es_whileE {KE : ε → Out} {cond : β → Res Bool} {mb : β → Res (β ⊕ ε)} {mR : β → Res Ω} (fuel : Nat) (SJ : β → List Sl) (b0 : β) (emb : ε → Ω) (wk : WL S (SJ b0)) (hp : PassesOwn (model X.prog X.w) X.A X.env X.xe)
    (ht : ∀ b, EvT X w t (SJ b) Ts (cond b) (fun _ => SJ b) id) (hb : ∀ b, EvS X w body (SJ b) Ts (mb b) (lpK SJ KE)) (hR : ∀ b, EvS X w rest (SJ b) Ts (mR b) K)
    (hs : ∀ o, ∃ S R, KE o = .rt S R := by intro o; exact ⟨_, _, rfl⟩) (hl : ∀ o, K (emb o) = KE o := by intro o; rfl) :
    EvS X w (.While t body [] pos :: rest) S Ts ((whileD cond mb fuel b0).bind (endW mR emb)) K := by
  refine (es_while (pos := pos) fuel b0 emb wk hp ht hb hR hs hl).cast ?_
  congr 1
end
end G
namespace G
open PySem L2
/-! ## list comprehensions -/
theorem wipe_get {σ : St} {i : Nat} : ∀ vs : List Nat, (wipe σ vs)[i]? = if i ∈ vs ∧ i < σ.length then some none else σ[i]?
  | [] => by simp [wipe]
  | v :: vs => by
    unfold wipe
    by_cases h : v = i
    · subst h
      by_cases h2 : v < σ.length
      · rw [List.getElem?_set_self (by rw [wipe_length]; exact h2), if_pos ⟨List.mem_cons_self, h2⟩]
      · rw [if_neg (fun z => h2 z.2), List.getElem?_eq_none (by rw [List.length_set, wipe_length]; omega), List.getElem?_eq_none (by omega)]
    · rw [List.getElem?_set_ne h, wipe_get vs]
      have : i ∈ v :: vs ↔ i ∈ vs := by simp [show ¬ i = v from fun z => h z.symm]
      simp only [this]
theorem wipe_off {σ σ' : St} {ks vs : List Nat} (o : Off ks σ σ') (h : ∀ k ∈ ks, k ∈ vs) : wipe σ' vs = wipe σ vs := by
  apply List.ext_getElem?
  intro i
  rw [wipe_get, wipe_get, o.1]
  by_cases hi : i ∈ vs
  · by_cases h2 : i < σ.length
    · rw [if_pos ⟨hi, h2⟩, if_pos ⟨hi, h2⟩]
    · rw [if_neg (fun z => h2 z.2), if_neg (fun z => h2 z.2), List.getElem?_eq_none (by rw [o.1]; omega), List.getElem?_eq_none (by omega)]
  · rw [if_neg (fun z => hi z.1), if_neg (fun z => hi z.1)]
    exact o.2 i fun z => hi (h i z)
def wipeS (S : List Sl) : List Nat → List Sl
  | [] => S
  | v :: vs => (wipeS S vs).set v .un
theorem wipeS_len (S : List Sl) : ∀ vs, (wipeS S vs).length = S.length
  | [] => rfl
  | v :: vs => by simp [wipeS, wipeS_len S vs]
def backS1 (S : List Sl) (v : Nat) : Sl := match S[v]? with
  | some (.v d) => .v d
  | _ => .un
/-- behind the block: its own names' slots as they were -/
def backS (S SE : List Sl) : List Nat → List Sl
  | [] => SE
  | v :: vs => (backS S SE vs).set v (backS1 S v)
theorem backS_len (S SE : List Sl) : ∀ vs, (backS S SE vs).length = SE.length
  | [] => rfl
  | v :: vs => by simp [backS, backS_len S SE vs]
variable {C : EC} {L T : List Sl} {ρ π : List (Option V)} {F H : Hp}
/-- one slot told anew -/
theorem Env.put1 {k : Nat} {s : Sl} {u : Option V} (E : Env C L ρ F H) (hk : k < L.length) (hs : s = .un ∨ ∃ d x, s = .v d ∧ u = some x ∧ Rp C.K F x d) (ha : L.all (noalk k) = true) : Env C (L.set k s) (ρ.set k u) F H := by
  have hkr : k < ρ.length := by rw [E.len]; exact hk
  refine Env.one k E (by simp [E.len]) (fun i t hi ht => ?_) (Le.refl _) E.sub (fun i q d p o hi h1 h2 h3 => ?_) (fun i d p o _ _ _ h _ => h) (fun d h => ?_) (fun q d h => ?_) (fun d h => ?_) (fun j h => ?_) (fun ds h => ?_) (fun _ _ _ h => h) (fun b o _ _ h => h) (fun b h1 h2 => absurd h2 h1)
  · rw [List.getElem?_set_ne (fun z => hi z.symm)] at ht
    refine .inr ⟨ht, List.getElem?_set_ne (fun z => hi z.symm), fun j e => ?_⟩
    subst e
    have := List.all_eq_true.mp ha _ (List.mem_of_getElem? ht)
    simp [noalk] at this
    exact List.getElem?_set_ne (fun z => this z.symm)
  · obtain ⟨p', o', a, b, c, _⟩ := E.ow i q d h1
    rw [h2] at a; cases a
    exact ⟨h3, c⟩
  all_goals rw [List.getElem?_set_self hk] at h
  · rcases hs with rfl | ⟨d', x, rfl, rfl, r⟩
    · cases h
    · cases h; exact ⟨x, by rw [List.getElem?_set_self hkr], r⟩
  all_goals rcases hs with rfl | ⟨d', x, rfl, rfl, r⟩ <;> cases h
theorem Env.wipes (E : Env C (L ++ T) (ρ ++ π) F H) (hρ : ρ.length = L.length) : ∀ (vs : List Nat), (∀ v ∈ vs, v < L.length) → (∀ v ∈ vs, (L ++ T).all (noalk v) = true) → Env C (wipeS L vs ++ T) (wipe ρ vs ++ π) F H ∧ ∀ k, (L ++ T).all (noalk k) = true → (wipeS L vs ++ T).all (noalk k) = true
  | [], _, _ => ⟨E, fun _ h => h⟩
  | v :: vs, h1, h2 => by
    obtain ⟨E1, h3⟩ := Env.wipes E hρ vs (fun k hk => h1 k (List.mem_cons_of_mem _ hk)) (fun k hk => h2 k (List.mem_cons_of_mem _ hk))
    have hv := h1 v List.mem_cons_self
    have E2 := E1.put1 (k := v) (s := .un) (u := none) (by rw [List.length_append, wipeS_len]; omega) (.inl rfl) (h3 v (h2 v List.mem_cons_self))
    rw [List.set_append_left _ _ (by rw [wipeS_len]; exact hv), List.set_append_left _ _ (by rw [wipe_length, hρ]; exact hv)] at E2
    refine ⟨E2, fun k hk => ?_⟩
    have := h3 k hk
    rw [List.all_append, Bool.and_eq_true] at this ⊢
    refine ⟨?_, this.2⟩
    show ((wipeS L vs).set v .un).all (noalk k) = true
    rw [List.all_eq_true] at this ⊢
    intro s hs
    rcases List.mem_or_eq_of_mem_set hs with h | h
    · exact this.1 s h
    · rw [h]; rfl
theorem noal_k {s : Sl} (k : Nat) (h : noal s = true) : noalk k s = true := by cases s <;> simp_all [noal, noalk]
theorem backS_set {S : List Sl} {v : Nat} {t : Sl} : ∀ (vs : List Nat) (SE : List Sl), v ∉ vs → backS S (SE.set v t) vs = (backS S SE vs).set v t
  | [], SE, _ => rfl
  | a :: as, SE, h => by
    rw [List.mem_cons, not_or] at h
    show (backS S _ as).set a _ = ((backS S SE as).set a _).set v _
    rw [backS_set as SE h.2, List.set_comm _ _ (fun z => h.1 z)]
theorem Env.backs {C0 : EC} {S SE : List Sl} {T0 : List Sl} {σ : St} {τ0 : List (Option V)} {F0 H0 : Hp} (E0 : Env C0 (S ++ T0) (σ ++ τ0) F0 H0) (hσ : σ.length = S.length) (le : Le F0 F) (hK : C.K = C0.K) (hSE : SE.length = S.length) :
    ∀ (vs : List Nat), vs.Nodup → (∀ v ∈ vs, v < S.length ∧ (SE ++ T).all (noalk v) = true) → Env C (SE ++ T) (wipe σ vs ++ π) F H → Env C (backS S SE vs ++ T) (σ ++ π) F H
  | [], _, _, E => E
  | v :: vs, nd, hv, E => by
    have h1 := (List.nodup_cons.mp nd).1
    obtain ⟨hvl, hva⟩ := hv v List.mem_cons_self
    have key : wipe σ vs = (wipe σ (v :: vs)).set v ((wipe σ vs)[v]?.getD none) := by
      apply List.ext_getElem?
      intro i
      by_cases hi : v = i
      · subst hi
        have hl : v < (wipe σ vs).length := by rw [wipe_length]; omega
        rw [List.getElem?_set_self (by rw [wipe_length]; omega), List.getElem?_eq_getElem hl]; rfl
      · rw [List.getElem?_set_ne hi]
        show _ = ((wipe σ vs).set v none)[i]?
        rw [List.getElem?_set_ne hi]
    have hu : (wipe σ vs)[v]? = σ[v]? := by rw [wipe_get, if_neg (fun z => h1 z.1)]
    have E1 := E.put1 (k := v) (s := backS1 S v) (u := (wipe σ vs)[v]?.getD none) (by rw [List.length_append, hSE]; omega) (by
      unfold backS1
      split
      · rename_i d hd
        obtain ⟨x, a, b⟩ := E0.va v d (by rw [at_left hvl]; exact hd)
        rw [at_left (by omega)] at a
        refine .inr ⟨d, x, rfl, by rw [hu, a]; rfl, ?_⟩
        rw [hK]
        exact b.mono le
      · exact .inl rfl) hva
    rw [List.set_append_left _ _ (by rw [hSE]; exact hvl), List.set_append_left _ _ (by rw [wipe_length]; omega), ← key] at E1
    have E2 := Env.backs (SE := SE.set v (backS1 S v)) E0 hσ le hK (by simp [hSE]) vs (List.nodup_cons.mp nd).2 (fun k hk => ⟨(hv k (List.mem_cons_of_mem _ hk)).1, by
      have := (hv k (List.mem_cons_of_mem _ hk)).2
      rw [List.all_append, Bool.and_eq_true] at this ⊢
      refine ⟨?_, this.2⟩
      rw [List.all_eq_true] at this ⊢
      intro s hs
      rcases List.mem_or_eq_of_mem_set hs with h | h
      · exact this.1 s h
      · rw [h]; unfold backS1; split <;> rfl⟩) E1
    have e : backS S (SE.set v (backS1 S v)) vs = backS S SE (v :: vs) := backS_set vs SE h1
    rw [e] at E2
    exact E2
/-- the frozen part only grows: told against the present one -/
theorem Env.rebase (E : Env C L ρ F H) : Env { C with F0 := F } L ρ F H := ⟨E.len, E.sub, E.va, E.ow, E.rd, E.al, E.sc, E.apart, E.hold, ⟨Le.refl _, E.gg.2⟩, fun b h => .inl h⟩
theorem Env.unbase {F1 F' H' : Hp} {L' : List Sl} {ρ' : List (Option V)} (E1 : Env C L ρ F1 H) (E : Env { C with F0 := F1 } L' ρ' F' H') : Env C L' ρ' F' H' := ⟨E.len, E.sub, E.va, E.ow, E.rd, E.al, E.sc, E.apart, E.hold, ⟨E1.gg.1.trans E.gg.1, E.gg.2⟩, fun b h => by
  rcases E.gn b h with h | h | h
  · exact E1.gn b h
  · exact .inr (.inl h)
  · exact .inr (.inr h)⟩
theorem Env.perm {L' : List Sl} {ρ' : List (Option V)} (f : Nat → Nat) (E : Env C L ρ F H) (hf : ∀ i j, i ≠ j → f i ≠ f j) (hl : ρ'.length = L'.length) (gL : ∀ i : Nat, L'[i]? = L[f i]?) (gR : ∀ i : Nat, ρ'[i]? = ρ[f i]?) (ha : ∀ i j : Nat, L'[i]? = some (.al j) → j < i ∧ f j = j) : Env C L' ρ' F H := by
  refine ⟨hl, E.sub, fun i d h => ?_, fun i q d h => ?_, fun i d h => ?_, fun i j h => ?_, fun i ds h => ?_, fun i j p q d q' d' hne e1 e2 e3 e4 => ?_, E.hold, E.gg, E.gn⟩
  · rw [gR]; rw [gL] at h; exact E.va _ d h
  · rw [gR]; rw [gL] at h; exact E.ow _ q d h
  · rw [gR]; rw [gL] at h
    obtain ⟨x, a, b⟩ := E.rd _ d h
    refine ⟨x, a, b.imp id ?_⟩
    rintro ⟨p, o, e1, e2, e3, e4⟩
    refine ⟨p, o, e1, e2, e3, fun j q d' hj hj2 => e4 (f j) q d' (by rw [← gL]; exact hj) (by rw [← gR]; exact hj2)⟩
  · obtain ⟨h1, h2⟩ := ha i j h
    rw [gL] at h
    obtain ⟨a, x, b, c⟩ := E.al _ j h
    exact ⟨h1, x, by rw [gR]; exact b, by rw [gR, h2]; exact c⟩
  · rw [gR]; rw [gL] at h; exact E.sc _ ds h
  · rw [gL] at e1 e2; rw [gR] at e3 e4
    exact E.apart _ _ p q d q' d' (hf i j hne) e1 e2 e3 e4
/-- the last place before those ahead of it -/
theorem Env.swapLast {M : List Sl} {s : Sl} {μ : List (Option V)} {u : Option V} (h1 : ρ.length = L.length) (h2 : μ.length = M.length) (hs : noal s = true) (hM : ∀ j : Nat, Sl.al j ∈ M → j < L.length) (E : Env C (L ++ M ++ [s]) (ρ ++ μ ++ [u]) F H) : Env C (L ++ [s] ++ M) (ρ ++ [u] ++ μ) F H := by
  obtain ⟨f, hf, hi⟩ : ∃ f : Nat → Nat, (∀ i, (i < L.length → f i = i) ∧ (i = L.length → f i = L.length + M.length) ∧ (L.length < i → i ≤ L.length + M.length → f i = i - 1) ∧ (L.length + M.length < i → f i = i)) ∧ ∀ i j, i ≠ j → f i ≠ f j := by
    refine ⟨fun i => if i < L.length then i else if i = L.length then L.length + M.length else if i ≤ L.length + M.length then i - 1 else i, fun i => ⟨fun h => if_pos h, fun h => ?_, fun h h' => ?_, fun h => ?_⟩, fun i j h => ?_⟩
    · show (if i < L.length then i else _) = _
      rw [if_neg (by omega), if_pos h]
    · show (if i < L.length then i else _) = _
      rw [if_neg (by omega), if_neg (by omega), if_pos h']
    · show (if i < L.length then i else _) = _
      rw [if_neg (by omega), if_neg (by omega), if_neg (by omega)]
    · show (if i < L.length then i else _) ≠ (if j < L.length then j else _)
      split <;> split <;> (try split) <;> (try split) <;> (try split) <;> (try split) <;> omega
  have gen : ∀ {α : Type} (A B : List α) (x : α), A.length = L.length → B.length = M.length → ∀ i : Nat, (A ++ [x] ++ B)[i]? = (A ++ B ++ [x])[f i]? := fun A B x hA hB i => by
    obtain ⟨f1, f2, f3, f4⟩ := hf i
    by_cases c1 : i < L.length
    · rw [f1 c1, List.append_assoc, List.append_assoc, List.getElem?_append_left (by omega), List.getElem?_append_left (by omega)]
    · by_cases c2 : i = L.length
      · rw [f2 c2, c2, show (A ++ B ++ [x])[L.length + M.length]? = some x by rw [← hA, ← hB, ← List.length_append]; exact at_last, ← hA, List.append_assoc, List.getElem?_append_right (Nat.le_refl _), Nat.sub_self]
        rfl
      · by_cases c3 : i ≤ L.length + M.length
        · rw [f3 (by omega) c3, List.getElem?_append_right (by simp; omega), List.getElem?_append_left (by simp; omega), List.getElem?_append_right (by omega)]
          congr 1
          simp; omega
        · rw [f4 (by omega), List.getElem?_eq_none (by simp; omega), List.getElem?_eq_none (by simp; omega)]
  refine E.perm f hi (by have := E.len; simp at this ⊢; omega) (gen L M s rfl rfl) (gen ρ μ u h1 h2) (fun i j h => ?_)
  have hj : j < L.length ∧ j < i := by
    by_cases c1 : i < L.length
    · rw [List.append_assoc, List.getElem?_append_left c1] at h
      have := (E.al i j (by rw [List.append_assoc, List.getElem?_append_left c1]; exact h)).1
      omega
    · by_cases c2 : i = L.length
      · rw [List.append_assoc, List.getElem?_append_right (by omega), show i - L.length = 0 by omega] at h
        cases h; cases hs
      · rw [List.getElem?_append_right (by simp; omega)] at h
        have := hM j (List.mem_of_getElem? h)
        omega
  exact ⟨hj.2, (hf j).1 hj.1⟩
/-- a clause's tests -/
def CanTs (X : Cx) (ifs : List Expr) : TT := fun σ H Q => ∃ t, PTs X ifs t ∧ t σ H Q
theorem canTs {X : Cx} {ifs : List Expr} : PTs X ifs (CanTs X ifs) := ⟨fun pins s σ H Q I ⟨_, h, q⟩ => h.run pins s σ H Q I q⟩
def EvTs {α : Type} (X : Cx) (w : Wx) (ifs : List Expr) (S Ts : List Sl) (m : Res α) (S' : α → List Sl) (b : α → Bool) : Prop :=
  ∀ (C : EC) (σ : St) (τ : List (Option V)) (F H : Hp) (Q : Bool → Hp → Prop), C.K = X.K → τ.length = Ts.length → Env C (S ++ Ts) (σ ++ τ) F H →
    (∀ a, m = .ok a → ∀ F' H', Env C (S' a ++ Ts) (σ ++ τ) F' H' → Q (b a) H') → (∀ x, m = .exc x → ExH X w C σ x) → m ≠ .bad → CanTs X ifs σ H Q
theorem ets_nil {X : Cx} {w : Wx} {S Ts : List Sl} : EvTs X w [] S Ts (.ok ()) (fun _ => S) (fun _ => true) := fun C σ τ F H Q hK hτ E hq _ _ => ⟨_, pts_nil, hq () rfl F H E⟩
theorem ets_one {α : Type} {X : Cx} {w : Wx} {S Ts : List Sl} {t : Expr} {m : Res α} {S' : α → List Sl} {b : α → Bool} (h : EvT X w t S Ts m S' b) : EvTs X w [t] S Ts m S' b := fun C σ τ F H Q hK hτ E hq hx hb => ⟨_, pts_one canT, h C σ τ F H Q hK hτ E hq hx hb⟩
/-- nothing is raised in a block -/
def Wno (n : Nat) : Wx := ⟨fun _ _ _ _ => False, List.replicate n .un⟩
/-- a block's turns: the state behind, and what is put into the list -/
def lcF {β : Type} (f : β → D → Res (β × Option D)) : List D → β → Res (β × List D)
  | [], b => .ok (b, [])
  | d :: ds, b => match f b d with
    | .ok (b', o) => (lcF f ds b').bind fun r => .ok (r.1, o.toList ++ r.2)
    | _ => .bad
/-- the context of a block -/
abbrev blkX (X : Cx) (scope : Scope) (s : Shared) (H : Hp) (c : Addr) (cl : List (Str × Addr)) (fp : List Addr) : Cx := X.blk s H scope (compEnvC scope cl c X.env) fp
section
variable {α β γ δ ε ζ : Type} {X : Cx} {w : Wx} {S Ts : List Sl} {tg iter elt : Expr} {ifs : List Expr} {scope : Scope} {pos : Pos} {mi : Res α} {Si : α → List Sl} {Rs : α → List Sl} {ss : α → List Src} {ds : α → List D} {SJ : β → List Sl}
def lcTurn (mg : β → D → Res γ) (mt : β → D → γ → Res δ) (bt : δ → Bool) (me : β → D → γ → δ → Res ε) (b1 : β → D → γ → δ → β) (b2 : β → D → γ → δ → ε → β) (y : ε → D) (b : β) (d : D) : Res (β × Option D) :=
  (mg b d).bind fun g => (mt b d g).bind fun t => if bt t then (me b d g t).bind fun e => .ok (b2 b d g t e, some (y e)) else .ok (b1 b d g t, none)
/-- as ItOk, for contexts that have what C0 has -/
def ItOkC (C0 : EC) (X : Cx) (J : It) (us : List V) (Rs : List Sl) (ss : List Src) (ds : List D) : Prop :=
  ∀ (C : EC) (L T : List Sl) (ρ : List (Option V)) (F H : Hp) (i : Nat), C.K = X.K → C.H0 = C0.H0 → C.io = C0.io → Le C0.F0 C.F0 → Env C (L ++ T ++ Rs) (ρ ++ us.map some) F H → pvs L Rs ss →
    (∀ d, ds[i]? = some d → J.go i H ∧ ∀ x H', J.yld i H x H' → ∃ F', Env C (L ++ T ++ Rs) (ρ ++ us.map some) F' H' ∧ Rp X.K F' x d) ∧ (ds.length ≤ i → J.stop i H)
theorem ItOk.c {C0 : EC} {J : It} {us : List V} {R : List Sl} {s : List Src} {d : List D} (h : ItOk X J us R s d) : ItOkC C0 X J us R s d := fun C L T ρ F H i hK _ _ _ E hv => h C L T ρ F H i hK E hv
/-- EvI, at one place -/
def EvIC (C : EC) (σ : L2.St) (τ : List (Option V)) (H : Hp) (X : Cx) (tg iter : Expr) (Ts : List Sl) (mi : Res α) (Si : α → List Sl) (Rs : α → List Sl) (ss : α → List Src) (ds : α → List D) : Prop :=
  ∀ Q : It → Hp → Prop, (∀ a, mi = .ok a → ∀ us F' H' J, us.length = (Rs a).length → Env C (Si a ++ Ts ++ Rs a) (σ ++ τ ++ us.map some) F' H' → ItOkC C X J us (Rs a) (ss a) (ds a) → Q J H') → CanI X tg iter σ H Q
def alIn (n : Nat) : Sl → Bool
  | .al j => decide (j < n)
  | _ => true
theorem lc_run {Sg : β → D → γ → List Sl} {mg : β → D → Res γ} {ks vs : List Nat} {mt : β → D → γ → Res δ} {S2 : β → D → γ → δ → List Sl} {bt : δ → Bool} {me : β → D → γ → δ → Res ε} {Se : β → D → γ → δ → ε → List Sl} {y : ε → D} (b0 : α → β)
    (b1 : β → D → γ → δ → β) (b2 : β → D → γ → δ → ε → β)
    (wk : ∀ a, WL (wipeS (Si a) vs) (SJ (b0 a)))
    (hg : ∀ s H c cl fp b d, EvG (blkX X scope s H c cl fp) tg (SJ b) d (mg b d) (Sg b d) ks)
    (ht : ∀ s H c cl fp b d g a ac, EvTs (blkX X scope s H c cl fp) (Wno X.N.length) ifs (Sg b d g) (Ts ++ [.ow none (.list ac)] ++ Rs a) (mt b d g) (S2 b d g) bt)
    (he : ∀ s H c cl fp b d g t a ac, EvE (blkX X scope s H c cl fp) (Wno X.N.length) elt (S2 b d g t) (Ts ++ [.ow none (.list ac)] ++ Rs a) (me b d g t) (Se b d g t) (fun e => .v (y e)))
    (hks : ∀ k ∈ ks, k ∈ vs) (nd : vs.Nodup)
    (w1 : ∀ b d g t, WL (wipeS (S2 b d g t) vs) (SJ (b1 b d g t))) (w2 : ∀ b d g t e, WL (wipeS (Se b d g t e) vs) (SJ (b2 b d g t e)))
    (hv : ∀ a b, pvs (SJ b) (Rs a) (ss a)) (hlen : ∀ a b, (SJ b).length = (Si a).length) (hvs : ∀ a, vs.all (fun v => decide (v < (Si a).length)) = true) (hal : ∀ a, (Si a ++ (Ts ++ Rs a)).all (fun s => vs.all (noalk · s)) = true) (hal2 : ∀ b, (SJ b).all noal = true)
    (hal3 : ∀ b d g t, (S2 b d g t).all noal = true) (hal4 : ∀ b d g t e, (Se b d g t e).all noal = true) (hRs : ∀ a, (Rs a).all (alIn (Si a).length) = true)
    {C : EC} {σ : St} {τ : List (Option V)} {H : Hp} {Q : VK} (hK : C.K = X.K) (hτ : τ.length = Ts.length) (hi : EvIC C σ τ H X tg iter Ts mi Si Rs ss ds)
    (hq : ∀ a r, mi = .ok a → (if (ds a).length ≤ sizeLine then lcF (lcTurn mg mt bt me b1 b2 y) (ds a) (b0 a) else .bad) = .ok r → ∀ u F' H', Env C (backS (Si a) (SJ r.1) vs ++ Ts ++ [.ow none (.list r.2)]) (σ ++ τ ++ [some u]) F' H' → Q u H')
    (hb : (mi.bind fun a => if (ds a).length ≤ sizeLine then lcF (lcTurn mg mt bt me b1 b2 y) (ds a) (b0 a) else .bad) ≠ .bad) :
    tLc (CanI X tg iter) (fun v σ H Q => ∀ s H0 c cl fp, CanG (blkX X scope s H0 c cl fp) tg v σ H Q) (fun σ H Q => ∀ s H0 c cl fp, CanTs (blkX X scope s H0 c cl fp) ifs σ H Q) (fun σ H Q => ∀ s H0 c cl fp, Can (blkX X scope s H0 c cl fp) elt σ H Q) vs σ H Q := by
  refine hi _ (fun a ha us F1 H1 J hlu E1 hJ => ?_)
  rw [ok_bind ha] at hb
  have hq := hq a
  have hz : (ds a).length ≤ sizeLine := by
    by_cases h : (ds a).length ≤ sizeLine
    · exact h
    · rw [if_neg h] at hb; exact absurd rfl hb
  rw [if_pos hz] at hb hq
  have hσ : σ.length = (Si a).length := by have := E1.len; simp at this; omega
  have hvs' : ∀ v ∈ vs, v < (Si a).length := fun v hv => by simpa using List.all_eq_true.mp (hvs a) v hv
  have hal' : ∀ v ∈ vs, (Si a ++ (Ts ++ Rs a)).all (noalk v) = true := fun v hv => by
    rw [List.all_eq_true]; intro s hs
    exact List.all_eq_true.mp (List.all_eq_true.mp (hal a) s hs) v hv
  have halT : ∀ ac, ∀ v ∈ vs, (Ts ++ [Sl.ow none (.list ac)] ++ Rs a).all (noalk v) = true := fun ac v hv => by
    have := hal' v hv
    simp only [List.all_append, Bool.and_eq_true] at this ⊢
    exact ⟨⟨this.2.1, rfl⟩, this.2.2⟩
  have noS : ∀ {M : List Sl} {T : List Sl}, M.all noal = true → (∀ v ∈ vs, T.all (noalk v) = true) → ∀ v ∈ vs, (M ++ T).all (noalk v) = true := fun {M T} hM hT v hv => by
    rw [List.all_append, Bool.and_eq_true]
    exact ⟨by rw [List.all_eq_true] at hM ⊢; exact fun s hs => noal_k v (hM s hs), hT v hv⟩
  intro D hD
  generalize hr : lcF (lcTurn mg mt bt me b1 b2 y) (ds a) (b0 a) = r at hq hb
  -- the block's start
  have E2 := ((Env.wipes (L := Si a) (T := Ts ++ Rs a) (ρ := σ) (π := τ ++ us.map some) (by simpa only [List.append_assoc] using E1) hσ vs hvs' hal').1)
  have E3 := (E2.rebase.wk (wl_pre (wk a))).pushOw (p := D) (o := .lst []) (d := .list []) hD ⟨[], rfl, .nil⟩
  have E3' := Env.swapLast (L := SJ (b0 a) ++ Ts) (M := Rs a) (ρ := wipe σ vs ++ τ) (μ := us.map some) (by simp [wipe_length, hσ, hlen a, hτ]) (by simp [hlu]) rfl (fun j hj => by
    have := List.all_eq_true.mp (hRs a) _ hj
    simp [alIn] at this
    rw [List.length_append, hlen a]; omega) (by simpa only [List.append_assoc] using E3)
  have hC' : ({ C with F0 := F1 } : EC).K = X.K := hK
  have lτ : ∀ ac, (τ ++ [some (V.ref D)] ++ us.map some).length = (Ts ++ [Sl.ow none (.list ac)] ++ Rs a).length := fun ac => by simp [hτ, hlu]
  have wipe2 : wipe (wipe σ vs) vs = wipe σ vs := by
    apply List.ext_getElem?
    intro i
    rw [wipe_get, wipe_get, wipe_length]
    split <;> rfl
  refine ⟨fun i n H' => ∃ b F' ac r', n = (ds a).length - i ∧ i ≤ (ds a).length ∧ ac.length ≤ i ∧ Env { C with F0 := F1 } (SJ b ++ (Ts ++ [.ow none (.list ac)] ++ Rs a)) (wipe σ vs ++ (τ ++ [some (.ref D)] ++ us.map some)) F' H' ∧ lcF (lcTurn mg mt bt me b1 b2 y) ((ds a).drop i) b = r' ∧ r = r'.bind fun z => .ok (z.1, ac ++ z.2), ⟨(ds a).length, b0 a, F1, [], r, by simp, Nat.zero_le _, Nat.le_refl _, ?_, hr, ?_⟩, ?_⟩
  · simpa only [List.append_assoc] using E3'
  · cases r <;> rfl
  rintro i n H' ⟨b, F', ac, r', rfl, hin, hac, E', hd, hrr⟩
  have lSJ : (SJ b).length = (Si a).length := hlen a b
  have E'' : Env { C with F0 := F1 } (SJ b ++ (Ts ++ [.ow none (.list ac)]) ++ Rs a) (wipe σ vs ++ (τ ++ [some (.ref D)]) ++ us.map some) F' H' := by simpa only [List.append_assoc] using E'
  obtain ⟨j1, j2⟩ := hJ { C with F0 := F1 } (SJ b) (Ts ++ [.ow none (.list ac)]) (wipe σ vs ++ (τ ++ [some (.ref D)])) F' H' i hC' rfl rfl E1.gg.1 E'' (hv a b)
  by_cases hlt : i < (ds a).length
  · have hdi : (ds a)[i]? = some (ds a)[i] := List.getElem?_eq_getElem hlt
    have hdr : (ds a).drop i = (ds a)[i] :: (ds a).drop (i + 1) := List.drop_eq_getElem_cons hlt
    rw [hdr] at hd
    simp only [lcF] at hd
    obtain ⟨jg, jy⟩ := j1 _ hdi
    generalize (ds a)[i] = d0 at hd jy
    refine .inr ⟨jg, fun H2 => ∃ b F2 ac2 r2, ac2.length ≤ i + 1 ∧ Env { C with F0 := F1 } (SJ b ++ (Ts ++ [.ow none (.list ac2)] ++ Rs a)) (wipe σ vs ++ (τ ++ [some (.ref D)] ++ us.map some)) F2 H2 ∧ lcF (lcTurn mg mt bt me b1 b2 y) ((ds a).drop (i + 1)) b = r2 ∧ r = r2.bind fun z => .ok (z.1, ac2 ++ z.2), fun H2 ⟨b, F2, ac2, r2, e1, e2, e3, e4⟩ => ⟨(ds a).length - (i + 1), by omega, b, F2, ac2, r2, rfl, hlt, e1, e2, e3, e4⟩, fun x H2 hy => ?_⟩
    obtain ⟨F2, E4, rx⟩ := jy x H2 hy
    have E4' : Env { C with F0 := F1 } (SJ b ++ (Ts ++ [.ow none (.list ac)] ++ Rs a)) (wipe σ vs ++ (τ ++ [some (.ref D)] ++ us.map some)) F2 H2 := by simpa only [List.append_assoc] using E4
    have nb : ∀ {z : Res (β × Option G.D)}, z = .bad ∨ (∃ x, z = .exc x) → lcTurn mg mt bt me b1 b2 y b d0 = z → False := fun {z} hz e => by
      rw [e] at hd
      have : r' = .bad := by
        rcases hz with rfl | ⟨x, rfl⟩ <;> exact hd.symm
      rw [hrr, this] at hb
      exact hb rfl
    intro s0 H0 c0 cl0 fp0
    refine hg s0 H0 c0 cl0 fp0 b d0 { C with F0 := F1 } (Ts ++ [.ow none (.list ac)] ++ Rs a) (wipe σ vs) (τ ++ [some (.ref D)] ++ us.map some) F2 H2 x _ hC' (lτ ac) E4' rx (by
      rw [List.all_eq_true]; intro s hs
      rw [List.all_eq_true]; intro k hk
      exact List.all_eq_true.mp (noS (hal2 b) (halT ac) k (hks k hk)) s hs) (fun g hgo σ3 O3 E5 => ?_) (fun eb => nb (.inl rfl) (by unfold lcTurn; rw [bad_bind eb]))
    have w3 : wipe σ3 vs = wipe σ vs := (wipe_off O3 hks).trans wipe2
    refine ⟨w3, fun s1 H1 c1 cl1 fp1 => ?_⟩
    refine ht s1 H1 c1 cl1 fp1 b d0 g a ac { C with F0 := F1 } σ3 (τ ++ [some (.ref D)] ++ us.map some) F2 H2 _ hC' (lτ ac) E5 (fun t hto F3 H3 E6 => ?_) (fun x ex => (nb (.inr ⟨x, rfl⟩) (by unfold lcTurn; rw [ok_bind hgo, exc_bind ex])).elim) (fun eb => nb (.inl rfl) (by unfold lcTurn; rw [ok_bind hgo, bad_bind eb]))
    have hl3 : σ3.length = (S2 b d0 g t).length := nil_len E6 (lτ ac)
    have hl3' : σ3.length = (Si a).length := by rw [O3.1, wipe_length, hσ]
    by_cases hbt : bt t = true
    · rw [if_pos hbt]
      intro s2 H2 c2 cl2 fp2
      refine he s2 H2 c2 cl2 fp2 b d0 g t a ac { C with F0 := F1 } σ3 (τ ++ [some (.ref D)] ++ us.map some) F3 H3 _ hC' (lτ ac) E6 (fun e heo u F4 H4 E7 => ?_) (fun x ex => (nb (.inr ⟨x, rfl⟩) (by unfold lcTurn; rw [ok_bind hgo, ok_bind hto, if_pos hbt, exc_bind ex])).elim) (fun eb => nb (.inl rfl) (by unfold lcTurn; rw [ok_bind hgo, ok_bind hto, if_pos hbt, bad_bind eb]))
      have hl4 : (Se b d0 g t e).length = σ3.length := by
        have := nil_len (L := Se b d0 g t e) (ρ := σ3) (π := τ ++ [some (.ref D)] ++ us.map some) (M := Ts ++ [.ow none (.list ac)] ++ Rs a) (E7.pop) (lτ ac)
        omega
      have turn : lcTurn mg mt bt me b1 b2 y b d0 = .ok (b2 b d0 g t e, some (y e)) := by unfold lcTurn; rw [ok_bind hgo, ok_bind hto, if_pos hbt, ok_bind heo]
      rw [turn] at hd
      -- the new list
      have hk : (Se b d0 g t e ++ (Ts ++ [Sl.ow none (.list ac)] ++ Rs a))[(Se b d0 g t e ++ Ts).length]? = some (.ow none (.list ac)) := by
        rw [List.append_assoc, ← List.append_assoc, List.getElem?_append_right (Nat.le_refl _), Nat.sub_self]; rfl
      have hkρ : (σ3 ++ (τ ++ [some (V.ref D)] ++ us.map some))[(Se b d0 g t e ++ Ts).length]? = some (some (.ref D)) := by
        rw [List.append_assoc, ← List.append_assoc, List.getElem?_append_right (by simp [hl4, hτ]), show (Se b d0 g t e ++ Ts).length - (σ3 ++ τ).length = 0 by simp [hl4, hτ]]; rfl
      obtain ⟨p, o, q1, q2, q3, q4, _⟩ := E7.pop.ow _ _ _ hk
      rw [hkρ] at q1; cases q1
      obtain ⟨xs, rfl, q5⟩ := q4
      obtain ⟨u', q6, q7⟩ := E7.va _ _ at_last
      rw [show (Se b d0 g t e ++ (Ts ++ [Sl.ow none (.list ac)] ++ Rs a)).length = (σ3 ++ (τ ++ [some (V.ref D)] ++ us.map some)).length from E7.pop.len.symm, at_last] at q6
      cases q6
      refine ⟨xs, q2, by rw [q5.len]; omega, b2 b d0 g t e, F4, ac ++ [y e], (lcF (lcTurn mg mt bt me b1 b2 y) ((ds a).drop (i + 1)) (b2 b d0 g t e)), by simp; omega, ?_, rfl, ?_⟩
      · have E8 := E7.pop.write (d' := .list (ac ++ [y e])) hk hkρ (o' := .lst (xs ++ [u])) ⟨_, rfl, q5.app (.one q7)⟩
        have eset : (Se b d0 g t e ++ (Ts ++ [Sl.ow none (.list ac)] ++ Rs a)).set (Se b d0 g t e ++ Ts).length (.ow none (.list (ac ++ [y e]))) = Se b d0 g t e ++ (Ts ++ [Sl.ow none (.list (ac ++ [y e]))] ++ Rs a) := by
          rw [List.append_assoc, ← List.append_assoc, List.set_append_right _ _ (Nat.le_refl _), Nat.sub_self, List.append_assoc]; simp
        rw [eset] at E8
        have E9 := (Env.wipes (L := Se b d0 g t e) (ρ := σ3) E8 hl4.symm vs (fun v hv => by have := hvs' v hv; omega) (noS (hal4 b d0 g t e) (halT _))).1
        rw [w3] at E9
        exact E9.wk (wl_pre (w2 b d0 g t e))
      · rw [hrr, ← hd]
        simp only [Res.bind]
        cases lcF (lcTurn mg mt bt me b1 b2 y) ((ds a).drop (i + 1)) (b2 b d0 g t e) <;> simp [Res.bind]
    · rw [if_neg hbt]
      have turn : lcTurn mg mt bt me b1 b2 y b d0 = .ok (b1 b d0 g t, none) := by unfold lcTurn; rw [ok_bind hgo, ok_bind hto, if_neg hbt]
      rw [turn] at hd
      refine ⟨b1 b d0 g t, F3, ac, (lcF (lcTurn mg mt bt me b1 b2 y) ((ds a).drop (i + 1)) (b1 b d0 g t)), by omega, ?_, rfl, ?_⟩
      · have E9 := (Env.wipes (L := S2 b d0 g t) (ρ := σ3) E6 hl3 vs (fun v hv => by have := hvs' v hv; omega) (noS (hal3 b d0 g t) (halT _))).1
        rw [w3] at E9
        exact E9.wk (wl_pre (w1 b d0 g t))
      · rw [hrr, ← hd]
        simp only [Res.bind]
        cases lcF (lcTurn mg mt bt me b1 b2 y) ((ds a).drop (i + 1)) (b1 b d0 g t) <;> simp [Res.bind]
  · have e0 : i = (ds a).length := by omega
    subst e0
    rw [List.drop_length] at hd
    simp only [lcF] at hd
    subst hd
    refine .inl ⟨j2 (Nat.le_refl _), ?_⟩
    have hr2 : r = .ok (b, ac) := by rw [hrr]; simp
    have E4 : Env { C with F0 := F1 } (SJ b ++ (Ts ++ [.ow none (.list ac)])) (wipe σ vs ++ (τ ++ [some (.ref D)])) F' H' := Env.pre (by simp [hlu]) E''
    have E5 := Env.backs (C := { C with F0 := F1 }) (SE := SJ b) (T := Ts ++ [.ow none (.list ac)]) (π := τ ++ [some (.ref D)]) (C0 := C) (S := Si a) (T0 := Ts ++ Rs a) (σ := σ) (τ0 := τ ++ us.map some) (F0 := F1) (H0 := H1) (by simpa only [List.append_assoc] using E1) hσ E4.gg.1 rfl lSJ vs nd (fun v hv => ⟨hvs' v hv, ?_⟩) E4
    · refine hq (b, ac) ha hr2 (.ref D) F' H' ?_
      have := Env.unbase E1 E5
      simpa only [List.append_assoc] using this
    · refine noS (hal2 b) (fun v hv => ?_) v hv
      have h1 := halT ac v hv
      rw [List.all_append, Bool.and_eq_true] at h1
      exact h1.1
end
end G
namespace G
open PySem L2
section
variable {α β γ δ ε ζ Ω : Type} {X : Cx} {w : Wx} {S Ts : List Sl} {tg iter elt e : Expr} {ifs : List Expr} {scope : Scope} {pos px spos : Pos} {mi : Res α} {Si : α → List Sl} {Rs : α → List Sl} {ss : α → List Src} {ds : α → List D} {SJ : β → List Sl}
def EvQ {α : Type} (X : Cx) (w : Wx) (te : TE) (S Ts : List Sl) (m : Res α) (S' : α → List Sl) (R : α → Sl) : Prop :=
  ∀ (C : EC) (σ : St) (τ : List (Option V)) (F H : Hp) (Q : VK), C.K = X.K → τ.length = Ts.length → Env C (S ++ Ts) (σ ++ τ) F H →
    (∀ a, m = .ok a → ∀ u F' H', Env C (S' a ++ Ts ++ [R a]) (σ ++ τ ++ [some u]) F' H' → Q u H') → (∀ x, m = .exc x → ExH X w C σ x) → m ≠ .bad → te σ H Q
/-- a comprehension: as a value, or told straight into a name -/
def EvK {α : Type} (X : Cx) (w : Wx) (e : Expr) (S Ts : List Sl) (m : Res α) (S' : α → List Sl) (R : α → Sl) : Prop :=
  ∃ te : TE, EvQ X w te S Ts m S' R ∧ PE X e te ∧ ∀ {i : Nat} {y : Str} {py spos : Pos}, X.N[i]? = some y → X.env.scope.names.lookup y = some .local → swapsWith e (some (.Name y py)) spos.line X.env = pure true → PS X (.Assign [.Name y py] e spos) (tAsg te (gName i))
theorem ev_k {m : Res α} {S' : α → List Sl} {R : α → Sl} (h : EvK X w e S Ts m S' R) : EvE X w e S Ts m S' R := by
  obtain ⟨te, h1, h2, _⟩ := h
  exact fun C σ τ F H Q hK hτ E hq hx hb => ⟨te, h2, h1 C σ τ F H Q hK hτ E hq hx hb⟩
theorem EvK.cast {m m' : Res α} {S' : α → List Sl} {R : α → Sl} (h : EvK X w e S Ts m S' R) (eq : m = m') : EvK X w e S Ts m' S' R := eq ▸ h
/-- x = [..], told into the name -/
theorem es_k (i : Nat) {x : Str} {m1 : Res α} {S1 : α → List Sl} {R1 : α → Sl} {m2 : α → Res Ω} {rest : List Stmt} {K : Ω → Out} (h1 : EvK X w e S Ts m1 S1 R1) (h2 : ∀ a, EvS X w rest ((S1 a).set i (R1 a)) Ts (m2 a) K) (hi : ∀ a, i < (S1 a).length := by intros; exact Nat.le_of_ble_eq_true rfl) (hR : ∀ a, notAl (R1 a) = true := by intros; rfl)
    (hal : ∀ a, (S1 a ++ Ts).all (noalk i) = true := by intros; rfl) (hN : X.N[i]? = some x := by rfl) (hl : X.env.scope.names.lookup x = some .local := by rfl) (hs : swapsWith e (some (.Name x px)) pos.line X.env = pure true := by exact sw_true rfl rfl rfl rfl) : EvS X w (.Assign [.Name x px] e pos :: rest) S Ts (m1.bind m2) K := by
  intro C σ τ F H D hK hτ E hq hx hb
  obtain ⟨te, h1, _, h3⟩ := h1
  refine ⟨_, pss_cons (h3 hN hl hs) canB, ?_⟩
  refine h1 C σ τ F H _ hK hτ E (fun a ha u F1 H1 E1 => ?_) (fun x ex => hx x (exc_bind ex) σ) (fun eb => hb (bad_bind eb))
  rw [ok_bind ha] at hq hx hb
  have n := notAl.no (hR a)
  have hl := nil_len E1.pop hτ
  have h1 := hi a
  have E2 := E1.setv (k := i) (by simp; omega) n.1 n.2 (hal a)
  rw [List.set_append_left _ _ h1, List.set_append_left _ _ (by omega)] at E2
  exact h2 a C _ τ F1 H1 D hK hτ E2 hq hx hb
def compS {β : Type} (f : β → D → Res (β × Option D)) (ds : List D) (b : β) : Res (β × List D) := if ds.length ≤ sizeLine then lcF f ds b else .bad
/-- with a state -/
theorem ek_compS {Sg : β → D → γ → List Sl} {mg : β → D → Res γ} {ks : List Nat} {mt : β → D → γ → Res δ} {S2 : β → D → γ → δ → List Sl} {bt : δ → Bool} {me : β → D → γ → δ → Res ε} {Se : β → D → γ → δ → ε → List Sl} {y : ε → D} {S' : ζ → List Sl} {R : ζ → Sl} (own : List (Str × Nat)) (pk : α → β × List D → ζ) (b0 : α → β)
    (b1 : β → D → γ → δ → β) (b2 : β → D → γ → δ → ε → β) (hc : X.calm = true) (hN : X.N.Nodup)
    (hi : EvI X w tg iter S Ts mi Si Rs ss ds) (wk : ∀ a, WL (wipeS (Si a) (own.map (·.2))) (SJ (b0 a)))
    (hg : ∀ s H c cl fp b d, EvG (blkX X scope s H c cl fp) tg (SJ b) d (mg b d) (Sg b d) ks)
    (ht : ∀ s H c cl fp b d g a ac, EvTs (blkX X scope s H c cl fp) (Wno X.N.length) ifs (Sg b d g) (Ts ++ [.ow none (.list ac)] ++ Rs a) (mt b d g) (S2 b d g) bt)
    (he : ∀ s H c cl fp b d g t a ac, EvE (blkX X scope s H c cl fp) (Wno X.N.length) elt (S2 b d g t) (Ts ++ [.ow none (.list ac)] ++ Rs a) (me b d g t) (Se b d g t) (fun e => .v (y e)))
    (w1 : ∀ b d g t, WL (wipeS (S2 b d g t) (own.map (·.2))) (SJ (b1 b d g t))) (w2 : ∀ b d g t e, WL (wipeS (Se b d g t e) (own.map (·.2))) (SJ (b2 b d g t e)))
    (ok : blkC X.N X.env.scope scope own = true := by rfl)
    (hks : ks.all (fun k => decide (k ∈ own.map (·.2))) = true := by rfl) (nd : (own.map (·.2)).Nodup := by decide)
    (hv : ∀ a b, pvs (SJ b) (Rs a) (ss a) := by intros; repeat' (first | trivial | rfl | constructor)) (hlen : ∀ a b, (SJ b).length = (Si a).length := by intros; rfl) (hvs : ∀ a, (own.map (·.2)).all (fun v => decide (v < (Si a).length)) = true := by intros; rfl) (hal : ∀ a, (Si a ++ (Ts ++ Rs a)).all (fun s => (own.map (·.2)).all (noalk · s)) = true := by intros; rfl) (hal2 : ∀ b, (SJ b).all noal = true := by intros; rfl)
    (hal3 : ∀ b d g t, (S2 b d g t).all noal = true := by intros; rfl) (hal4 : ∀ b d g t e, (Se b d g t e).all noal = true := by intros; rfl) (hRs : ∀ a, (Rs a).all (alIn (Si a).length) = true := by intros; rfl)
    (hS : ∀ a r, S' (pk a r) = backS (Si a) (SJ r.1) (own.map (·.2)) := by intros; rfl) (hR : ∀ a r, R (pk a r) = .ow none (.list r.2) := by intros; rfl)
    (hs : ∀ x, foldedSetIterable iter X.env x = pure x := by intro _; rfl) :
    EvK X w (.ListComp elt [⟨tg, iter, ifs, 0⟩] scope pos) S Ts (mi.bind fun a => (compS (lcTurn mg mt bt me b1 b2 y) (ds a) (b0 a)).bind fun r => .ok (pk a r)) S' R := by
  have ok' := blkOk_by ok
  have pg : ∀ (s : Shared) (H : Hp) (C : Addr) (cl : List (Str × Addr)) (fp : List Addr), PG (X.blk s H scope (compEnvC scope cl C X.env) fp) tg (fun v σ H Q => ∀ s H0 c cl fp, CanG (blkX X scope s H0 c cl fp) tg v σ H Q) := fun s0 H0 c cl fp => ⟨fun pins s σ H v u Q I r q => canG.run pins s σ H v u Q I r (q s0 H0 c cl fp)⟩
  have pt : ∀ (s : Shared) (H : Hp) (C : Addr) (cl : List (Str × Addr)) (fp : List Addr), PTs (X.blk s H scope (compEnvC scope cl C X.env) fp) ifs (fun σ H Q => ∀ s H0 c cl fp, CanTs (blkX X scope s H0 c cl fp) ifs σ H Q) := fun s0 H0 c cl fp => ⟨fun pins s σ H Q I q => canTs.run pins s σ H Q I (q s0 H0 c cl fp)⟩
  have pe : ∀ (s : Shared) (H : Hp) (C : Addr) (cl : List (Str × Addr)) (fp : List Addr), PE (X.blk s H scope (compEnvC scope cl C X.env) fp) elt (fun σ H Q => ∀ s H0 c cl fp, Can (blkX X scope s H0 c cl fp) elt σ H Q) := fun s0 H0 c cl fp => ⟨fun pins s σ H Q I q => can.run pins s σ H Q I (q s0 H0 c cl fp)⟩
  refine ⟨_, ?_, pe_lc hc hN canI ok' pg pt pe hs, fun {i y py spos} a b c => ps_setLc hc hN a b c canI ok' pg pt pe hs⟩
  intro C σ τ F H Q hK hτ E hq hx hb
  refine lc_run b0 b1 b2 wk hg ht he (fun k hk => by simpa using List.all_eq_true.mp hks k hk) nd w1 w2 hv hlen hvs hal hal2 hal3 hal4 hRs hK hτ (fun Q hQ => hi C σ τ F H Q hK hτ E (fun a ha us F' H' J hl E' hJ => hQ a ha us F' H' J hl E' hJ.c) (fun x ex => hx x (exc_bind ex)) (fun eb => hb (bad_bind eb))) (fun a r ha hr u F' H' E' => ?_) (fun eb => hb ?_)
  · refine hq (pk a r) ?_ u F' H' (by rw [hS, hR]; exact E')
    rw [ok_bind ha]
    unfold compS
    rw [hr]; rfl
  · cases hm : mi with
    | ok a =>
      rw [hm] at eb
      simp only [Res.bind_ok] at eb ⊢
      unfold compS
      rw [eb]; rfl
    | exc x => rw [hm] at eb; cases eb
    | bad => rfl
/-- pure blocks -/
def lcP (f : D → Res (Option D)) : List D → Res (List D)
  | [] => .ok []
  | d :: ds => match f d with
    | .ok o => (lcP f ds).bind fun r => .ok (o.toList ++ r)
    | _ => .bad
def lcM (f : D → Res D) : List D → Res (List D)
  | [] => .ok []
  | d :: ds => match f d with
    | .ok o => (lcM f ds).bind fun r => .ok (o :: r)
    | _ => .bad
def compO (f : D → Res (Option D)) (ds : List D) : Res (List D) := if ds.length ≤ sizeLine then lcP f ds else .bad
def compM (f : D → Res D) (ds : List D) : Res (List D) := if ds.length ≤ sizeLine then lcM f ds else .bad
theorem lcF_P {f : Unit → D → Res (Unit × Option D)} {g : D → Res (Option D)} (h : ∀ d, f () d = (g d).map fun o => ((), o)) : ∀ ds, lcF f ds () = (lcP g ds).map fun r => ((), r)
  | [] => rfl
  | d :: ds => by
    simp only [lcF, lcP, h]
    cases g d with
    | ok o =>
      simp only [Res.map, Res.bind_ok]
      rw [lcF_P h ds]
      cases lcP g ds <;> rfl
    | exc x => rfl
    | bad => rfl
theorem lcP_M {f : D → Res D} : ∀ ds, lcP (fun d => (f d).map some) ds = lcM f ds
  | [] => rfl
  | d :: ds => by
    simp only [lcP, lcM]
    cases f d with
    | ok o =>
      have e := lcP_M (f := f) ds
      simp only [Res.map, Res.bind_ok] at e ⊢
      rw [e]
      cases lcM f ds <;> rfl
    | exc x => rfl
    | bad => rfl
def iffO (c : Res Bool) (e : Res D) : Res (Option D) := c.bind fun t => if t then e.map some else .ok none
theorem ek_compO {Sg : D → γ → List Sl} {mg : D → Res γ} {ks : List Nat} {mt : D → γ → Res Bool} {me : D → γ → Res D} (own : List (Str × Nat)) (hc : X.calm = true) (hN : X.N.Nodup)
    (hi : EvI X w tg iter S Ts mi (fun _ => S) Rs ss ds)
    (hg : ∀ s H c cl fp d, EvG (blkX X scope s H c cl fp) tg (wipeS S (own.map (·.2))) d (mg d) (Sg d) ks)
    (ht : ∀ s H c cl fp d g a ac, EvTs (blkX X scope s H c cl fp) (Wno X.N.length) ifs (Sg d g) (Ts ++ [.ow none (.list ac)] ++ Rs a) (mt d g) (fun _ => Sg d g) id)
    (he : ∀ s H c cl fp d g a ac, EvE (blkX X scope s H c cl fp) (Wno X.N.length) elt (Sg d g) (Ts ++ [.ow none (.list ac)] ++ Rs a) (me d g) (fun _ => Sg d g) .v)
    (w1 : ∀ d g, WL (wipeS (Sg d g) (own.map (·.2))) (wipeS S (own.map (·.2))) := by intros; exact WL.refl _)
    (ok : blkC X.N X.env.scope scope own = true := by rfl)
    (hks : ks.all (fun k => decide (k ∈ own.map (·.2))) = true := by rfl) (nd : (own.map (·.2)).Nodup := by decide)
    (hv : ∀ a, pvs (wipeS S (own.map (·.2))) (Rs a) (ss a) := by intros; repeat' (first | trivial | rfl | constructor)) (hlen : (wipeS S (own.map (·.2))).length = S.length := by rfl) (hvs : (own.map (·.2)).all (fun v => decide (v < S.length)) = true := by intros; rfl) (hal : ∀ a, (S ++ (Ts ++ Rs a)).all (fun s => (own.map (·.2)).all (noalk · s)) = true := by intros; rfl) (hal2 : (wipeS S (own.map (·.2))).all noal = true := by intros; rfl)
    (hal3 : ∀ d g, (Sg d g).all noal = true := by intros; rfl) (hRs : ∀ a, (Rs a).all (alIn S.length) = true := by intros; rfl)
    (hs : ∀ x, foldedSetIterable iter X.env x = pure x := by intro _; rfl) :
    EvK X w (.ListComp elt [⟨tg, iter, ifs, 0⟩] scope pos) S Ts (mi.bind fun a => compO (fun d => (mg d).bind fun g => iffO (mt d g) (me d g)) (ds a)) (fun _ => backS S (wipeS S (own.map (·.2))) (own.map (·.2))) (fun r => .ow none (.list r)) := by
  have h := ek_compS (β := Unit) (SJ := fun _ => wipeS S (own.map (·.2))) (pos := pos) (S' := fun _ : List D => backS S (wipeS S (own.map (·.2))) (own.map (·.2))) (R := fun r => .ow none (.list r)) (mg := fun _ d => mg d) (mt := fun _ d g => mt d g) (bt := id) (me := fun _ d g _ => me d g) (Sg := fun _ d g => Sg d g) (S2 := fun _ d g _ => Sg d g) (Se := fun _ d g _ _ => Sg d g) (y := id) own (fun _ r => r.2) (fun _ => ()) (fun _ _ _ _ => ()) (fun _ _ _ _ _ => ()) hc hN hi (fun _ => WL.refl _) (fun s H c cl fp _ d => hg s H c cl fp d) (fun s H c cl fp _ d g a ac => ht s H c cl fp d g a ac) (fun s H c cl fp _ d g _ a ac => he s H c cl fp d g a ac) (fun _ d g _ => w1 d g) (fun _ d g _ _ => w1 d g) ok hks nd (fun a _ => hv a) (fun _ _ => hlen) (fun _ => hvs) hal (fun _ => hal2) (fun _ d g _ => hal3 d g) (fun _ d g _ _ => hal3 d g) hRs (fun _ _ => rfl) (fun _ _ => rfl) hs
  refine h.cast ?_
  congr 1
  funext a
  unfold compS compO
  split
  · rw [lcF_P (g := fun d => (mg d).bind fun g => iffO (mt d g) (me d g))]
    · cases lcP (fun d => (mg d).bind fun g => iffO (mt d g) (me d g)) (ds a) <;> rfl
    · intro d
      show ((mg d).bind fun g => (mt d g).bind fun t => if t = true then (me d g).bind fun e => .ok ((), some e) else .ok ((), none)) = Res.map (fun o => ((), o)) ((mg d).bind fun g => (mt d g).bind fun t => if t = true then (me d g).map some else .ok none)
      cases mg d with
      | ok g =>
        simp only [Res.bind_ok]
        cases mt d g with
        | ok t =>
          cases t
          · rfl
          · simp only [Res.bind_ok, if_true]
            cases me d g <;> rfl
        | exc x => rfl
        | bad => rfl
      | exc x => rfl
      | bad => rfl
  · rfl
theorem ek_compM {Sg : D → γ → List Sl} {mg : D → Res γ} {ks : List Nat} {me : D → γ → Res D} (own : List (Str × Nat)) (hc : X.calm = true) (hN : X.N.Nodup)
    (hi : EvI X w tg iter S Ts mi (fun _ => S) Rs ss ds)
    (hg : ∀ s H c cl fp d, EvG (blkX X scope s H c cl fp) tg (wipeS S (own.map (·.2))) d (mg d) (Sg d) ks)
    (he : ∀ s H c cl fp d g a ac, EvE (blkX X scope s H c cl fp) (Wno X.N.length) elt (Sg d g) (Ts ++ [.ow none (.list ac)] ++ Rs a) (me d g) (fun _ => Sg d g) .v)
    (w1 : ∀ d g, WL (wipeS (Sg d g) (own.map (·.2))) (wipeS S (own.map (·.2))) := by intros; exact WL.refl _)
    (ok : blkC X.N X.env.scope scope own = true := by rfl)
    (hks : ks.all (fun k => decide (k ∈ own.map (·.2))) = true := by rfl) (nd : (own.map (·.2)).Nodup := by decide)
    (hv : ∀ a, pvs (wipeS S (own.map (·.2))) (Rs a) (ss a) := by intros; repeat' (first | trivial | rfl | constructor)) (hlen : (wipeS S (own.map (·.2))).length = S.length := by rfl) (hvs : (own.map (·.2)).all (fun v => decide (v < S.length)) = true := by intros; rfl) (hal : ∀ a, (S ++ (Ts ++ Rs a)).all (fun s => (own.map (·.2)).all (noalk · s)) = true := by intros; rfl) (hal2 : (wipeS S (own.map (·.2))).all noal = true := by intros; rfl)
    (hal3 : ∀ d g, (Sg d g).all noal = true := by intros; rfl) (hRs : ∀ a, (Rs a).all (alIn S.length) = true := by intros; rfl)
    (hs : ∀ x, foldedSetIterable iter X.env x = pure x := by intro _; rfl) :
    EvK X w (.ListComp elt [⟨tg, iter, [], 0⟩] scope pos) S Ts (mi.bind fun a => compM (fun d => (mg d).bind fun g => me d g) (ds a)) (fun _ => backS S (wipeS S (own.map (·.2))) (own.map (·.2))) (fun r => .ow none (.list r)) := by
  have h := ek_compS (β := Unit) (SJ := fun _ => wipeS S (own.map (·.2))) (pos := pos) (S' := fun _ : List D => backS S (wipeS S (own.map (·.2))) (own.map (·.2))) (R := fun r => .ow none (.list r)) (mg := fun _ d => mg d) (mt := fun _ d g => .ok ()) (bt := fun _ => true) (me := fun _ d g _ => me d g) (Sg := fun _ d g => Sg d g) (S2 := fun _ d g _ => Sg d g) (Se := fun _ d g _ _ => Sg d g) (y := id) own (fun _ r => r.2) (fun _ => ()) (fun _ _ _ _ => ()) (fun _ _ _ _ _ => ()) hc hN hi (fun _ => WL.refl _) (fun s H c cl fp _ d => hg s H c cl fp d) (fun s H c cl fp _ d g a ac => ets_nil) (fun s H c cl fp _ d g _ a ac => he s H c cl fp d g a ac) (fun _ d g _ => w1 d g) (fun _ d g _ _ => w1 d g) ok hks nd (fun a _ => hv a) (fun _ _ => hlen) (fun _ => hvs) hal (fun _ => hal2) (fun _ d g _ => hal3 d g) (fun _ d g _ _ => hal3 d g) hRs (fun _ _ => rfl) (fun _ _ => rfl) hs
  refine h.cast ?_
  congr 1
  funext a
  unfold compS compM
  split
  · rw [lcF_P (g := fun d => ((mg d).bind fun g => me d g).map some), lcP_M]
    · cases lcM (fun d => (mg d).bind fun g => me d g) (ds a) <;> rfl
    · intro d
      show ((mg d).bind fun g => (Res.ok ()).bind fun t => if true = true then (me d g).bind fun e => .ok ((), some e) else .ok ((), none)) = Res.map (fun o => ((), o)) (((mg d).bind fun g => me d g).map some)
      cases mg d with
      | ok g =>
        simp only [Res.bind_ok, if_true]
        cases me d g <;> rfl
      | exc x => rfl
      | bad => rfl
  · rfl
end
end G
namespace L2
open PySem PySem.Spec PyProof.Rows
/-- sorted(xs), pairs of ints; b: the other way round -/
def rSortedPP (K : PySem.W.Frag) (b : Bool) : List V → Hp → VK → Prop := fun vs H Q => ∃ (a : Addr) (ys : List V) (ps : List (Int × Int)), vs = [V.ref a] ∧ SqL K H a ys ∧ ys.length = ps.length ∧
  (∀ (i : Nat) y q, ys[i]? = some y → ps[i]? = some q → ∃ t, y = V.ref t ∧ SqT K H t [.int q.1, .int q.2]) ∧
  ∀ k : V → Int × Int, (∀ (i : Nat) y q, ys[i]? = some y → ps[i]? = some q → k y = q) → ∀ zs p, zs.Perm ys → SrtO.Srtd (ltP k) zs → H p = none → Q (.ref p) (upd H p (.lst (if b then zs.reverse else zs)))
section
variable {X : Cx}
noncomputable def kP (K : PySem.W.Frag) (H : Hp) (y : V) : Int × Int := by
  classical
  exact if h : ∃ q : Int × Int, ∃ t, y = V.ref t ∧ SqT K H t [.int q.1, .int q.2] then Classical.choose h else (0, 0)
theorem kP_eq {pins : List (Addr × Obj)} {σ : St} {H : Hp} {s : Shared} {y : V} {q : Int × Int} {t : Addr} (I : Inv X pins σ H s) (e : y = V.ref t) (h : SqT X.K H t [.int q.1, .int q.2]) : kP X.K H y = q := by
  have hx : ∃ q : Int × Int, ∃ t, y = V.ref t ∧ SqT X.K H t [.int q.1, .int q.2] := ⟨q, t, e, h⟩
  unfold kP
  rw [dif_pos hx]
  obtain ⟨t', e', h'⟩ := Classical.choose_spec hx
  rw [e] at e'
  cases e'
  have := I.tuple_inj h' h
  simp only [List.cons.injEq, V.int.injEq, and_true] at this
  exact Prod.ext this.1 this.2
theorem sortedP_facts {pins : List (Addr × Obj)} {σ : St} {H : Hp} {s : Shared} {ys : List V} {ps : List (Int × Int)} {its : List Value} (I : Inv X pins σ H s) (rv : Vals ys its) (hl : ys.length = ps.length) (hp : ∀ (i : Nat) y q, ys[i]? = some y → ps[i]? = some q → ∃ t, y = V.ref t ∧ SqT X.K H t [.int q.1, .int q.2]) :
    ys = its.map backV ∧ (∀ v ∈ its, ∃ t, v = Value.ref t) ∧ (∀ v ∈ its, Srt.IsPair s.heap v (kP X.K H (backV v)).1 (kP X.K H (backV v)).2) := by
  have each : ∀ y ∈ ys, ∃ q t, y = V.ref t ∧ SqT X.K H t [.int (Prod.fst q), .int (Prod.snd q)] := fun y hy => by
    obtain ⟨i, hi⟩ := List.getElem?_of_mem hy
    have hil := (List.getElem?_eq_some_iff.mp hi).1
    obtain ⟨t, e, h⟩ := hp i y _ hi (List.getElem?_eq_getElem (by omega))
    exact ⟨_, t, e, h⟩
  obtain ⟨e1, e2⟩ := refs_back rv fun x m => by
    obtain ⟨q, t, e, _⟩ := each x m
    exact ⟨t, e⟩
  refine ⟨e1, e2, fun v hv => ?_⟩
  obtain ⟨t, rfl⟩ := e2 v hv
  have hm : V.ref t ∈ ys := by rw [e1]; exact List.mem_map.mpr ⟨_, hv, rfl⟩
  obtain ⟨q, t', e, ht⟩ := each _ hm
  cases e
  have hk : kP X.K H (backV (Value.ref t)) = q := kP_eq I rfl ht
  rw [hk]
  obtain ⟨its2, r2, ⟨o, ho, hc, n, hd⟩, _⟩ := I.tuple ht
  obtain ⟨u1, u2, rfl, ri, rj⟩ := vals2 r2
  obtain ⟨t1, rfl⟩ := ri
  obtain ⟨t2, rfl⟩ := rj
  exact ⟨t, o, t1, t2, n, rfl, ho, hc, hd⟩
theorem cr_sortedPP : CallR X (.builtin "sorted") (rSortedPP X.K false) := by
  intro pins s σ H vs us Q I r h
  obtain ⟨a, ys, ps, rfl, hs, hl0, hp, q⟩ := h
  obtain ⟨its, rv, hl, hz⟩ := I.list hs
  rw [Vals.ref1 r]
  obtain ⟨e1, e2, hpr⟩ := sortedP_facts I rv hl0 hp
  refine SrtO.sorted_ord (SrtO.swo_lex fun u => kP X.K H (backV u)) hl.isList (by rw [← rv.length]; exact hz) (fun h2 h₁ a' ho' keep => SrtO.pairs_sortableO (s := { s with heap := h₁ }) (by omega) (fun v hv => (hpr v hv).keeps fun b o e c => (keep b o e).2) fun o e => ?_) fun out h1 h2 => ?_
  · have e' : some o = some (seqObj "list" its.toArray 0) := e.symm.trans ho'
    cases e'
    intro c
    exact absurd (Value.type.inj c) (by decide)
  · have h3 : ∀ u ∈ out, ∃ a, u = Value.ref a := fun u hu => e2 u (h2.perm.mem_iff.mp hu)
    obtain ⟨ep, he'⟩ := PyProof.Rows.sortedAll_at s.heap its out.toArray
    have hb : (out.map backV).Perm ys := by rw [e1]; exact h2.perm.map backV
    have hlen : (out.map backV).length ≤ sizeLine := by rw [hb.length_eq]; exact hz
    refine ⟨.ref _, upd H (s.heap.objs.size + 1) (.lst (out.map backV)), I.laid (t' := s.toks) (fun _ _ => PyProof.Rows.sortedAll_old) (Nat.le_succ _) ⟨hlen, out, ep, vals_back h3, he'⟩, rfl, ?_⟩
    refine q (kP X.K H) (fun i y p h1 h2 => ?_) _ _ hb (SrtO.srtd_map h1) (I.hok.fresh (Nat.le_succ _))
    obtain ⟨t, e, ht⟩ := hp i y p h1 h2
    exact kP_eq I e ht
theorem cr_sortedPPR : CallRK X (.builtin "sorted") [Str.ofString "reverse"] (fun vs zs H Q => zs = [.bl true] ∧ rSortedPP X.K true vs H Q) := by
  intro pins s σ H vs zs us ws Q I r rz h
  obtain ⟨rfl, a, ys, ps, rfl, hs, hl0, hp, q⟩ := h
  obtain rfl := Vals.ref1 r
  obtain ⟨w1, rfl, ew⟩ := vals1 rz
  obtain rfl : w1 = Value.bool true := ew
  obtain ⟨its, rv, hl, hz⟩ := I.list hs
  obtain ⟨e1, e2, hpr⟩ := sortedP_facts I rv hl0 hp
  refine SrtR.sorted_ordK (b := true) (fun _ => rfl) (PyProof.Rows.args_sorted_rev _ _) (fun _ => PyProof.Rows.args_list_sort_rev _ _) (SrtO.swo_lex fun u => kP X.K H (backV u)) hl.isList (by rw [← rv.length]; exact hz) (fun h2 h₁ a' ho' keep => SrtO.pairs_sortableO (s := { s with heap := h₁ }) (by omega) (fun v hv => (hpr v hv).keeps fun b o e c => (keep b o e).2) fun o e => ?_) fun out h1 h2 => ?_
  · have e' : some o = some (seqObj "list" its.toArray 0) := e.symm.trans ho'
    cases e'
    intro c
    exact absurd (Value.type.inj c) (by decide)
  · have h2p : out.Perm its := h2.perm.trans (List.reverse_perm _)
    have h3 : ∀ u ∈ out, ∃ a, u = Value.ref a := fun u hu => e2 u (h2p.mem_iff.mp hu)
    have h4 : ∀ u ∈ out.reverse, ∃ a, u = Value.ref a := fun u hu => h3 u (List.mem_reverse.mp hu)
    have er : (out.map backV).reverse = out.reverse.map backV := by rw [List.map_reverse]
    obtain ⟨ep, he'⟩ := PyProof.Rows.sortedAll_at s.heap its out.toArray.reverse
    have hb : (out.map backV).Perm ys := by rw [e1]; exact h2p.map backV
    have hlen : (out.map backV).reverse.length ≤ sizeLine := by rw [List.length_reverse, hb.length_eq]; exact hz
    refine ⟨.ref _, upd H (s.heap.objs.size + 1) (.lst (out.map backV).reverse), I.laid (t' := s.toks) (fun _ _ => PyProof.Rows.sortedAll_old) (Nat.le_succ _) ⟨hlen, out.reverse, ep, by rw [er]; exact vals_back h4, by simpa using he'⟩, rfl, ?_⟩
    have := q (kP X.K H) (fun i y p h1 h2 => ?_) _ _ hb (SrtO.srtd_map h1) (I.hok.fresh (Nat.le_succ _))
    · exact this
    · obtain ⟨t, e, ht⟩ := hp i y p h1 h2
      exact kP_eq I e ht
end
end L2
namespace G
open PySem L2
/-! ### pairs of ints, in their order -/
def leP (p q : Int × Int) : Bool := !SrtO.lexB q p
def insP (x : Int × Int) : List (Int × Int) → List (Int × Int)
  | [] => [x]
  | y :: ys => if leP x y then x :: y :: ys else y :: insP x ys
def srtP : List (Int × Int) → List (Int × Int)
  | [] => []
  | x :: xs => insP x (srtP xs)
theorem leP_iff {p q : Int × Int} : leP p q = true ↔ p.1 < q.1 ∨ (p.1 = q.1 ∧ p.2 ≤ q.2) := by
  unfold leP
  rw [Bool.not_eq_true', SrtO.lexB_no]
  omega
theorem insP_perm (x : Int × Int) : ∀ ys, (insP x ys).Perm (x :: ys)
  | [] => .refl _
  | y :: ys => by
    unfold insP
    split
    · exact .refl _
    · exact ((insP_perm x ys).cons y).trans (.swap ..)
theorem srtP_perm : ∀ xs, (srtP xs).Perm xs
  | [] => .refl _
  | x :: xs => (insP_perm x _).trans ((srtP_perm xs).cons x)
theorem insP_sorted (x : Int × Int) : ∀ {ys : List (Int × Int)}, ys.Pairwise (fun a b => leP a b = true) → (insP x ys).Pairwise (fun a b => leP a b = true)
  | [], _ => by simp [insP]
  | y :: ys, h => by
    have h' := List.pairwise_cons.mp h
    unfold insP
    split
    · rename_i hxy
      refine List.pairwise_cons.mpr ⟨fun z hz => ?_, h⟩
      rcases List.mem_cons.mp hz with rfl | hz
      · exact hxy
      · have := h'.1 z hz
        rw [leP_iff] at *; omega
    · rename_i hxy
      refine List.pairwise_cons.mpr ⟨fun z hz => ?_, insP_sorted x h'.2⟩
      rcases List.mem_cons.mp ((insP_perm x ys).mem_iff.mp hz) with rfl | hz
      · rw [leP_iff] at *; omega
      · exact h'.1 z hz
theorem srtP_sorted : ∀ xs, (srtP xs).Pairwise (fun a b => leP a b = true)
  | [] => .nil
  | x :: xs => insP_sorted x (srtP_sorted xs)
theorem srtP_of {xs ys : List (Int × Int)} (p : ys.Perm xs) (h : ys.Pairwise (fun a b => leP a b = true)) : ys = srtP xs :=
  (p.trans (srtP_perm xs).symm).eq_of_pairwise (le := fun a b => leP a b = true) (fun a b _ _ h1 h2 => by
    rw [leP_iff] at *; exact Prod.ext (by omega) (by omega)) h (srtP_sorted xs)
def pD (p : Int × Int) : D := .tup [.int p.1, .int p.2]
def pairsOf : List D → Option (List (Int × Int))
  | [] => some []
  | .tup [.int i, .int j] :: ds => (pairsOf ds).map ((i, j) :: ·)
  | _ :: _ => none
theorem pairsOf_ok : ∀ {ds : List D} {ps : List (Int × Int)}, pairsOf ds = some ps → ds = ps.map pD
  | [], _, h => by cases h; rfl
  | d :: ds, ps, h => by
    unfold pairsOf at h
    split at h
    · rename_i heq; cases heq
    · rename_i heq
      cases heq
      obtain ⟨qs, h1, rfl⟩ := Option.map_eq_some_iff.mp h
      rw [pairsOf_ok h1]; rfl
    · cases h
theorem pairsOf_map : ∀ ps : List (Int × Int), pairsOf (ps.map pD) = some ps
  | [] => rfl
  | p :: ps => by simp [pairsOf, pD, pairsOf_map ps]
theorem rpP_items {K : PySem.W.Frag} {F H : Hp} {ys : List V} {ps : List (Int × Int)} (hs : Le F H) (b : RpL K F ys (ps.map pD)) : ∀ (i : Nat) y q, ys[i]? = some y → ps[i]? = some q → ∃ t, y = V.ref t ∧ SqT K H t [.int q.1, .int q.2] := fun i y q h1 h2 => by
  obtain ⟨d, h3, h4⟩ := b.at h1
  rw [List.getElem?_map, h2] at h3
  cases h3
  cases h4 with
  | tup g1 g2 =>
    cases g2 with
    | cons c1 c2 =>
      cases c2 with
      | cons c3 c4 =>
        cases c1; cases c3; cases c4
        exact ⟨_, rfl, hs.st g1⟩
theorem rpP_sorted {K : PySem.W.Frag} {F : Hp} {ys zs : List V} {ps : List (Int × Int)} {k : V → Int × Int} (b : RpL K F ys (ps.map pD)) (hk : ∀ (i : Nat) y q, ys[i]? = some y → ps[i]? = some q → k y = q) (hp : zs.Perm ys) (hz : SrtO.Srtd (ltP k) zs) : RpL K F zs ((srtP ps).map pD) := by
  have hy : ys.map k = ps := by
    apply List.ext_getElem?
    intro i
    rw [List.getElem?_map]
    have hl := b.len
    rw [List.length_map] at hl
    by_cases hi : i < ps.length
    · rw [List.getElem?_eq_getElem (by omega : i < ys.length), List.getElem?_eq_getElem hi]
      exact congrArg some (hk i _ _ (List.getElem?_eq_getElem (by omega)) (List.getElem?_eq_getElem hi))
    · rw [List.getElem?_eq_none (by omega), List.getElem?_eq_none (by omega)]; rfl
  have h1 : zs.map k = srtP ps := by
    refine srtP_of (by rw [← hy]; exact hp.map k) ?_
    rw [List.pairwise_map]
    refine hz.imp fun {x y} h => ?_
    rw [leP_iff]
    have := SrtO.lexB_no.mp (show SrtO.lexB (k y) (k x) = false from h)
    omega
  rw [← h1, List.map_map]
  have each : ∀ z ∈ zs, Rp K F z (pD (k z)) := fun z hz => by
    obtain ⟨i, hi⟩ := List.getElem?_of_mem (hp.mem_iff.mp hz)
    obtain ⟨d, h3, h4⟩ := b.at hi
    rw [List.getElem?_map] at h3
    obtain ⟨q, h5, rfl⟩ := Option.map_eq_some_iff.mp h3
    rw [hk i z q hi h5]; exact h4
  clear h1 hz hp
  induction zs with
  | nil => exact .nil
  | cons z zs ih => exact .cons (each z (by simp)) (ih fun y hy => each y (by simp [hy]))
end G
namespace G
open PySem L2
/-! ## dicts -/
def keyOf : D → Option Key
  | .int i => some (.inl i)
  | .str s => some (.inr s)
  | _ => none
@[simp] theorem keyOf_kD (k : Key) : keyOf (kD k) = some k := by cases k <;> rfl
theorem keyOf_eq {d : D} {k : Key} (h : keyOf d = some k) : d = kD k := by cases d <;> cases h <;> rfl
theorem Rn.key {K : PySem.W.Frag} {F H : Hp} {x : V} {d : D} {k : Key} (h : Rn K F H x d) (hk : keyOf d = some k) : x = kV k := by
  cases d <;> cases hk
  · exact h.int
  · exact h.str
theorem Rp.kD {K : PySem.W.Frag} {F : Hp} (k : Key) : Rp K F (kV k) (kD k) := by cases k <;> constructor
def kEq (a : D) (k : Key) : Bool := decide (keyOf a = some k)
@[simp] theorem kEq_kD (j k : Key) : kEq (kD j) k = decide (j = k) := by simp [kEq]
def dGet (es : List (D × D)) (k : Key) : Option D := (es.find? fun e => kEq e.1 k).map (·.2)
def dPut (es : List (D × D)) (k : Key) (v : D) : List (D × D) := if es.any (fun e => kEq e.1 k) then es.map (fun e => if kEq e.1 k then (e.1, v) else e) else es ++ [(kD k, v)]
def dDel (es : List (D × D)) (k : Key) : List (D × D) := es.filter fun e => !kEq e.1 k
variable {K : PySem.W.Frag} {F H : Hp}
theorem RpK.len : ∀ {kvs : List (Key × V)} {es : List (D × D)}, RpK K F kvs es → kvs.length = es.length
  | _, _, .nil => rfl
  | _, _, .cons _ t => by simp [RpK.len t]
theorem RpK.get {k : Key} : ∀ {kvs : List (Key × V)} {es : List (D × D)}, RpK K F kvs es → (dGet es k = none ∧ valV kvs k = none) ∨ ∃ v d, dGet es k = some d ∧ valV kvs k = some v ∧ Rp K F v d
  | _, _, .nil => .inl ⟨rfl, rfl⟩
  | _, _, .cons (k := j) (v := v) (d := d) r t => by
    by_cases h : j = k
    · subst h
      exact .inr ⟨v, d, by simp [dGet], valV_pos rfl, r⟩
    · rcases RpK.get (k := k) t with ⟨a, b⟩ | ⟨v, d, a, b, c⟩
      · refine .inl ⟨?_, by rw [valV_neg h]; exact b⟩
        unfold dGet at a ⊢
        rw [List.find?_cons_of_neg (by simp [h])]; exact a
      · refine .inr ⟨v, d, ?_, by rw [valV_neg h]; exact b, c⟩
        unfold dGet at a ⊢
        rw [List.find?_cons_of_neg (by simp [h])]; exact a
theorem RpK.any {k : Key} : ∀ {kvs : List (Key × V)} {es : List (D × D)}, RpK K F kvs es → (kvs.any fun kv => decide (kv.1 = k)) = es.any fun e => kEq e.1 k
  | _, _, .nil => rfl
  | _, _, .cons r t => by simp [RpK.any t]
theorem RpK.app : ∀ {kvs kvs2 : List (Key × V)} {es es2 : List (D × D)}, RpK K F kvs es → RpK K F kvs2 es2 → RpK K F (kvs ++ kvs2) (es ++ es2)
  | _, _, _, _, .nil, h => h
  | _, _, _, _, .cons r t, h => .cons r (RpK.app t h)
theorem RpK.mapPut {k : Key} {v : V} {d : D} (h : Rp K F v d) : ∀ {kvs : List (Key × V)} {es : List (D × D)}, RpK K F kvs es → RpK K F (kvs.map fun kv => if kv.1 = k then (kv.1, v) else kv) (es.map fun e => if kEq e.1 k then (e.1, d) else e)
  | _, _, .nil => .nil
  | _, _, .cons (k := j) r t => by
    simp only [List.map_cons, kEq_kD]
    by_cases e : j = k
    · simp only [e, if_true, decide_true]; exact .cons h (RpK.mapPut h t)
    · simp only [e, if_false, decide_false]; exact .cons r (RpK.mapPut h t)
theorem RpK.put {k : Key} {v : V} {d : D} {kvs : List (Key × V)} {es : List (D × D)} (t : RpK K F kvs es) (h : Rp K F v d) : RpK K F (putK kvs k v) (dPut es k d) := by
  unfold putK dPut
  rw [t.any (k := k)]
  split
  · exact t.mapPut h
  · exact t.app (.cons h .nil)
theorem RpK.del {k : Key} : ∀ {kvs : List (Key × V)} {es : List (D × D)}, RpK K F kvs es → RpK K F (dropK kvs k) (dDel es k)
  | _, _, .nil => .nil
  | _, _, .cons (k := j) r t => by
    unfold dropK dDel
    have ih := RpK.del (k := k) t
    unfold dropK dDel at ih
    by_cases e : j = k
    · rw [List.filter_cons_of_neg (by simp [e]), List.filter_cons_of_neg (by simp [e])]; exact ih
    · rw [List.filter_cons_of_pos (by simp [e]), List.filter_cons_of_pos (by simp [e])]; exact .cons r ih
theorem RpK.keys : ∀ {kvs : List (Key × V)} {es : List (D × D)}, RpK K F kvs es → RpL K F (kvs.map fun kv => kV kv.1) (es.map (·.1))
  | _, _, .nil => .nil
  | _, _, .cons r t => .cons (Rp.kD _) (RpK.keys t)
theorem RpK.keyStrs : ∀ {kvs : List (Key × V)} {es : List (D × D)} {ns : List Str}, RpK K F kvs es → strsOf (es.map (·.1)) = some ns → kvs.map (·.1) = ns.map Sum.inr
  | _, _, ns, .nil, h => by cases h; rfl
  | _, _, ns, .cons (k := j) r t, h => by
    cases j with
    | inl i => cases h
    | inr s =>
      simp only [List.map_cons, kD, strsOf] at h
      obtain ⟨ms, h1, rfl⟩ := Option.map_eq_some_iff.mp h
      simp [RpK.keyStrs t h1]
theorem RpK.keyInts : ∀ {kvs : List (Key × V)} {es : List (D × D)} {ns : List Int}, RpK K F kvs es → intsOf (es.map (·.1)) = some ns → kvs.map (·.1) = ns.map Sum.inl
  | _, _, ns, .nil, h => by cases h; rfl
  | _, _, ns, .cons (k := j) r t, h => by
    cases j with
    | inr i => cases h
    | inl s =>
      simp only [List.map_cons, kD, intsOf] at h
      obtain ⟨ms, h1, rfl⟩ := Option.map_eq_some_iff.mp h
      simp [RpK.keyInts t h1]
/-! ### sorting -/
def ltS (a b : Str) : Bool := decide (a.cps.toList < b.cps.toList)
def insS (x : Str) : List Str → List Str
  | [] => [x]
  | y :: ys => if ltS y x then y :: insS x ys else x :: y :: ys
def srtS : List Str → List Str
  | [] => []
  | x :: xs => insS x (srtS xs)
def insI (x : Int) : List Int → List Int
  | [] => [x]
  | y :: ys => if y < x then y :: insI x ys else x :: y :: ys
def srtI : List Int → List Int
  | [] => []
  | x :: xs => insI x (srtI xs)
theorem insS_perm (x : Str) : ∀ ys, (insS x ys).Perm (x :: ys)
  | [] => .refl _
  | y :: ys => by
    unfold insS
    split
    · exact ((insS_perm x ys).cons y).trans (.swap x y ys)
    · exact .refl _
theorem srtS_perm : ∀ xs, (srtS xs).Perm xs
  | [] => .refl _
  | x :: xs => (insS_perm x _).trans ((srtS_perm xs).cons x)
theorem insI_perm (x : Int) : ∀ ys, (insI x ys).Perm (x :: ys)
  | [] => .refl _
  | y :: ys => by
    unfold insI
    split
    · exact ((insI_perm x ys).cons y).trans (.swap x y ys)
    · exact .refl _
theorem srtI_perm : ∀ xs, (srtI xs).Perm xs
  | [] => .refl _
  | x :: xs => (insI_perm x _).trans ((srtI_perm xs).cons x)
theorem ltS_le {a b : Str} (h : ltS a b = true) : ltS b a = false := by
  unfold ltS at *
  simp only [decide_eq_true_eq, decide_eq_false_iff_not] at *
  exact fun h' => absurd (List.lt_trans h h') (List.lt_irrefl _)
theorem leS_trans {a b c : Str} (h1 : ltS b a = false) (h2 : ltS c b = false) : ltS c a = false := by
  unfold ltS at *
  simp only [decide_eq_false_iff_not, List.not_lt] at *
  exact List.le_trans h1 h2
theorem leS_anti {a b : Str} (h1 : ltS b a = false) (h2 : ltS a b = false) : a = b := by
  unfold ltS at *
  simp only [decide_eq_false_iff_not, List.not_lt] at *
  have := List.le_antisymm h1 h2
  cases a; cases b
  simp only [Str.mk.injEq]
  exact Array.toList_inj.mp this
theorem insS_sorted (x : Str) : ∀ {ys : List Str}, ys.Pairwise (fun a b => ltS b a = false) → (insS x ys).Pairwise (fun a b => ltS b a = false)
  | [], _ => by simp [insS]
  | y :: ys, h => by
    unfold insS
    obtain ⟨h1, h2⟩ := List.pairwise_cons.mp h
    split
    · rename_i hlt
      refine List.pairwise_cons.mpr ⟨fun z hz => ?_, insS_sorted x h2⟩
      rcases List.mem_cons.mp ((insS_perm x ys).mem_iff.mp hz) with rfl | hz
      · exact ltS_le hlt
      · exact h1 z hz
    · rename_i hlt
      have hlt : ltS y x = false := by simpa using hlt
      refine List.pairwise_cons.mpr ⟨fun z hz => ?_, h⟩
      rcases List.mem_cons.mp hz with rfl | hz
      · exact hlt
      · exact leS_trans hlt (h1 z hz)
theorem srtS_sorted : ∀ xs, (srtS xs).Pairwise (fun a b => ltS b a = false)
  | [] => .nil
  | x :: xs => insS_sorted x (srtS_sorted xs)
theorem insI_sorted (x : Int) : ∀ {ys : List Int}, ys.Pairwise (· ≤ ·) → (insI x ys).Pairwise (· ≤ ·)
  | [], _ => by simp [insI]
  | y :: ys, h => by
    unfold insI
    obtain ⟨h1, h2⟩ := List.pairwise_cons.mp h
    split
    · rename_i hlt
      refine List.pairwise_cons.mpr ⟨fun z hz => ?_, insI_sorted x h2⟩
      rcases List.mem_cons.mp ((insI_perm x ys).mem_iff.mp hz) with rfl | hz
      · omega
      · exact h1 z hz
    · rename_i hlt
      refine List.pairwise_cons.mpr ⟨fun z hz => ?_, h⟩
      rcases List.mem_cons.mp hz with rfl | hz
      · omega
      · have := h1 z hz; omega
theorem srtI_sorted : ∀ xs, (srtI xs).Pairwise (· ≤ ·)
  | [] => .nil
  | x :: xs => insI_sorted x (srtI_sorted xs)
theorem uniq_sorted {α : Type} {r : α → α → Prop} (anti : ∀ a b, r a b → r b a → a = b) : ∀ {xs ys : List α}, xs.Perm ys → xs.Pairwise r → ys.Pairwise r → xs = ys
  | [], ys, p, _, _ => by simpa using p.symm
  | x :: xs, [], p, _, _ => by have := p.length_eq; simp at this
  | x :: xs, y :: ys, p, hx, hy => by
    obtain ⟨x1, x2⟩ := List.pairwise_cons.mp hx
    obtain ⟨y1, y2⟩ := List.pairwise_cons.mp hy
    have e : x = y := by
      rcases List.mem_cons.mp (p.mem_iff.mp List.mem_cons_self) with h | h
      · exact h
      · rcases List.mem_cons.mp (p.symm.mem_iff.mp List.mem_cons_self) with h' | h'
        · exact h'.symm
        · exact anti _ _ (x1 y h') (y1 x h)
    subst e
    rw [uniq_sorted anti (List.perm_cons x |>.mp p) x2 y2]
theorem srtI_of {xs ys : List Int} (p : ys.Perm xs) (h : ys.Pairwise (· ≤ ·)) : ys = srtI xs :=
  uniq_sorted (fun a b h1 h2 => by omega) (p.trans (srtI_perm xs).symm) h (srtI_sorted xs)
theorem rising_pw : ∀ {l : List Str} {p : Str}, PyProof.Rows.risingS p l = true → (p :: l).Pairwise (fun a b => ltS b a = false)
  | [], p, _ => by simp
  | x :: r, p, h => by
    unfold PyProof.Rows.risingS at h
    rw [Bool.and_eq_true] at h
    have ih := rising_pw h.2
    have h1 : ltS x p = false := by
      have := h.1
      rw [PyProof.Rows.ltCps_eq] at this
      simpa [ltS] using this
    refine List.pairwise_cons.mpr ⟨fun z hz => ?_, ih⟩
    rcases List.mem_cons.mp hz with rfl | hz
    · exact h1
    · exact leS_trans h1 ((List.pairwise_cons.mp ih).1 z hz)
theorem srtS_of {xs ys : List Str} (p : ys.Perm xs) (h : PyProof.Rows.sortedS ys = true) : ys = srtS xs := by
  refine uniq_sorted (fun a b h1 h2 => leS_anti h1 h2) (p.trans (srtS_perm xs).symm) ?_ (srtS_sorted xs)
  cases ys with
  | nil => exact .nil
  | cons y ys => exact rising_pw h
theorem srtS_perm_eq {xs ys : List Str} (p : xs.Perm ys) : srtS xs = srtS ys := uniq_sorted (fun a b h1 h2 => leS_anti h1 h2) ((srtS_perm xs).trans (p.trans (srtS_perm ys).symm)) (srtS_sorted xs) (srtS_sorted ys)
theorem srtI_perm_eq {xs ys : List Int} (p : xs.Perm ys) : srtI xs = srtI ys := uniq_sorted (fun a b h1 h2 => by omega) ((srtI_perm xs).trans (p.trans (srtI_perm ys).symm)) (srtI_sorted xs) (srtI_sorted ys)
section
variable {α β γ δ Ω : Type} {X : Cx} {w : Wx} {S Ts : List Sl} {e e1 e2 ie : Expr} {m1 : Res α} {S1 : α → List Sl} {R1 : α → Sl} {m2 : α → Res β} {S2 : α → β → List Sl} {R2 : α → β → Sl} {rest : List Stmt} {KO : Ω → Out} {x : Str} {px pos spos : Pos}
/-! ### rules -/
theorem ev_dnew : EvE X w (.Dict [] [] pos) S Ts (.ok ()) (fun _ => S) (fun _ => .ow none (.dict [])) := fun C σ τ F H Q hK hτ E hq _ _ =>
  ⟨_, pe_dnewK, fun p hp => hq () rfl _ F _ (E.pushOw hp ⟨[], rfl, .nil⟩)⟩
def opDIx : D → D → Res D
  | .dict es, k => match keyOf k with
    | some k => ofO (dGet es k)
    | none => .bad
  | _, _ => .bad
def opDIn : D → D → Res Bool
  | k, .dict es => match keyOf k with
    | some k => .ok (dGet es k).isSome
    | none => .bad
  | _, _ => .bad
theorem opDIx_ne {a b : D} {z : Exn} (h : opDIx a b = .exc z) : False := by
  unfold opDIx at h
  split at h
  · split at h
    · rename_i k _; cases e : dGet _ k <;> rw [e] at h <;> cases h
    · cases h
  · cases h
theorem opDIn_ne {a b : D} {z : Exn} (h : opDIn a b = .exc z) : False := by
  unfold opDIn at h
  split at h
  · split at h <;> cases h
  · cases h
theorem DGet.rd {H : Hp} {a : Addr} {kvs : List (Key × V)} {k : Key} (e : Rd H a (.dK kvs)) : DGet H a (kV k) (valV kvs k) := .inl ⟨kvs, k, e, rfl, rfl⟩
/-- d[k] -/
theorem ev_dix (S' : γ → List Sl) (R : γ → Sl) (pk : α → β → D → γ) (d1 d2 : α → β → D) (hu : X.A.units + 65 < cLine) (h1 : EvE X w e1 S Ts m1 S1 R1) (h2 : ∀ a, EvE X w e2 (S1 a) (Ts ++ [R1 a]) (m2 a) (S2 a) (R2 a)) (hp : NoSl e2 := by intro _ _; rfl)
    (v1 : ∀ a b, vw (S2 a b) (R1 a) = some (d1 a b) := by intros; rfl) (v2 : ∀ a b, vw (S2 a b) (R2 a b) = some (d2 a b) := by intros; rfl) (hS : ∀ a b d, S' (pk a b d) = S2 a b := by intros; rfl) (hR : ∀ a b d, R (pk a b d) = .v d := by intros; rfl) :
    EvE X w (.Subscript e1 e2 pos) S Ts (m1.bind fun a => (m2 a).bind fun b => (opDIx (d1 a b) (d2 a b)).bind fun d => .ok (pk a b d)) S' R := by
  intro C σ τ F H Q hK hτ E hq hx hb
  refine ⟨_, pe_dget (by unfold cLine at *; omega) can can hp, ?_⟩
  refine ev2 _ h1 h2 hK hτ E _ (fun a b ha hb2 u v F' H' E' => ?_) hx hb
  rw [ok_bind ha, ok_bind hb2] at hq hx hb
  have r1 := E'.last2 (v1 a b)
  have r2 := Env.last (T := Ts ++ [R1 a]) (ρ := σ ++ τ ++ [some u]) (by rw [← List.append_assoc]; exact E') (v2 a b)
  cases eo : opDIx (d1 a b) (d2 a b) with
  | bad => rw [eo] at hb; exact absurd rfl hb
  | exc x => exact (opDIx_ne eo).elim
  | ok d =>
    rw [eo] at hq
    generalize d1 a b = dd at r1 eo
    unfold opDIx at eo
    split at eo
    · split at eo
      · rename_i es k hk
        obtain ⟨p, kvs, rfl, g1, g2⟩ := r1.dict E'.sub
        cases r2.key hk
        have eo := ofO_ok eo
        rcases g2.get (k := k) with ⟨a1, _⟩ | ⟨y, d', a1, a2, a3⟩
        · rw [a1] at eo; cases eo
        · rw [a1] at eo; cases eo
          refine ⟨p, y, rfl, a2 ▸ DGet.rd g1, hq (pk a b d) rfl y F' H' ?_⟩
          rw [hS, hR]
          exact E'.pop.pop.pushV a3
      · cases eo
    · cases eo
theorem ev_dixP {m1 : Res α} {m2 : Res β} {R2 : β → Sl} {d1 : α → D} {d2 : β → D} (hu : X.A.units + 65 < cLine) (h1 : EvE X w e1 S Ts m1 (fun _ => S) R1) (h2 : ∀ a, EvE X w e2 S (Ts ++ [R1 a]) m2 (fun _ => S) R2) (hp : NoSl e2 := by intro _ _; rfl) (v1 : ∀ a, vw S (R1 a) = some (d1 a) := by intros; rfl) (v2 : ∀ a, vw S (R2 a) = some (d2 a) := by intros; rfl) :
    EvE X w (.Subscript e1 e2 pos) S Ts (m1.bind fun a => m2.bind fun b => opDIx (d1 a) (d2 b)) (fun _ => S) .v :=
  (ev_dix (γ := D) (fun _ => S) .v (fun _ _ d => d) (fun a _ => d1 a) (fun _ b => d2 b) hu h1 h2 hp (fun a _ => v1 a) (fun _ b => v2 b) (fun _ _ _ => rfl) (fun _ _ _ => rfl)).cast (bind2 m1 m2 _)
/-- k in d, k not in d -/
theorem et_din {m1 : Res α} {m2 : Res β} {R2 : β → Sl} {d1 : α → D} {d2 : β → D} (hu : X.A.units + 65 < cLine) (h1 : EvE X w e1 S Ts m1 (fun _ => S) R1) (h2 : ∀ a, EvE X w e2 S (Ts ++ [R1 a]) m2 (fun _ => S) R2) (hm : behindInMarks .In e2 = false := by rfl) (v1 : ∀ a, vw S (R1 a) = some (d1 a) := by intros; rfl) (v2 : ∀ a, vw S (R2 a) = some (d2 a) := by intros; rfl) :
    EvT X w (.Compare e1 [.In] [e2] pos) S Ts (m1.bind fun a => m2.bind fun b => opDIn (d1 a) (d2 b)) (fun _ => S) id ∧ EvE X w (.Compare e1 [.In] [e2] pos) S Ts (m1.bind fun a => m2.bind fun b => opDIn (d1 a) (d2 b)) (fun _ => S) (fun b => .v (.bl b)) := by
  have key : ∀ (C : EC) (σ : St) (τ : List (Option V)) (F H : Hp) (Q : VK), C.K = X.K → τ.length = Ts.length → Env C (S ++ Ts) (σ ++ τ) F H → (∀ b, (m1.bind fun a => m2.bind fun b => opDIn (d1 a) (d2 b)) = .ok b → ∀ F' H', Env C (S ++ Ts) (σ ++ τ) F' H' → Q (.bl b) H') → (∀ x, (m1.bind fun a => m2.bind fun b => opDIn (d1 a) (d2 b)) = .exc x → ExH X w C σ x) → (m1.bind fun a => m2.bind fun b => opDIn (d1 a) (d2 b)) ≠ .bad → tDIn (Can X e1) (Can X e2) σ H Q := by
    intro C σ τ F H Q hK hτ E hq hx hb
    refine ev2 (fun a b => (opDIn (d1 a) (d2 b))) h1 h2 hK hτ E (fun u v H' => ∃ a o, v = .ref a ∧ DGet H' a u o ∧ Q (.bl o.isSome) H') (fun a b ha hb2 u v F' H' E' => ?_) hx hb
    rw [ok_bind ha, ok_bind hb2] at hq hx hb
    have r1 := E'.last2 (v1 a)
    have r2 := Env.last (T := Ts ++ [R1 a]) (ρ := σ ++ τ ++ [some u]) (by rw [← List.append_assoc]; exact E') (v2 b)
    cases eo : opDIn (d1 a) (d2 b) with
    | bad => rw [eo] at hb; exact absurd rfl hb
    | exc x => exact (opDIn_ne eo).elim
    | ok d =>
      have eo' := eo
      generalize d2 b = dd at r2 eo
      cases dd <;> simp only [opDIn] at eo <;> try (cases eo; done)
      rename_i es
      cases hk : keyOf (d1 a) with
      | none => rw [hk] at eo; cases eo
      | some k =>
        rw [hk] at eo
        obtain ⟨p, kvs, rfl, g1, g2⟩ := r2.dict E'.sub
        cases r1.key hk
        cases eo
        refine ⟨p, valV kvs k, rfl, DGet.rd g1, ?_⟩
        have e : (valV kvs k).isSome = (dGet es k).isSome := by
          rcases g2.get (k := k) with ⟨a1, a2⟩ | ⟨y, d', a1, a2, a3⟩ <;> rw [a1, a2] <;> rfl
        rw [e]
        exact hq _ eo' F' H' E'.pop.pop
  refine ⟨fun C σ τ F H Q hK hτ E hq hx hb => ⟨_, pt_cmp (pc_din (by unfold cLine at *; omega) can can) hm, ?_⟩, fun C σ τ F H Q hK hτ E hq hx hb => ⟨_, pe_cmp (pc_din (by unfold cLine at *; omega) can can) hm, ?_⟩⟩
  · exact key C σ τ F H _ hK hτ E (fun b hb F' H' E' => ⟨b, rfl, hq b hb F' H' E'⟩) hx hb
  · exact key C σ τ F H _ hK hτ E (fun b hb F' H' E' => hq b hb _ F' H' (E'.pushV (.bl b))) hx hb
theorem et_dnotin {m1 : Res α} {m2 : Res β} {R2 : β → Sl} {d1 : α → D} {d2 : β → D} (hu : X.A.units + 65 < cLine) (h1 : EvE X w e1 S Ts m1 (fun _ => S) R1) (h2 : ∀ a, EvE X w e2 S (Ts ++ [R1 a]) m2 (fun _ => S) R2) (hm : behindInMarks .NotIn e2 = false := by rfl) (v1 : ∀ a, vw S (R1 a) = some (d1 a) := by intros; rfl) (v2 : ∀ a, vw S (R2 a) = some (d2 a) := by intros; rfl) :
    EvT X w (.Compare e1 [.NotIn] [e2] pos) S Ts (m1.bind fun a => m2.bind fun b => (opDIn (d1 a) (d2 b)).map (!·)) (fun _ => S) id ∧ EvE X w (.Compare e1 [.NotIn] [e2] pos) S Ts (m1.bind fun a => m2.bind fun b => (opDIn (d1 a) (d2 b)).map (!·)) (fun _ => S) (fun b => .v (.bl b)) := by
  have key : ∀ (C : EC) (σ : St) (τ : List (Option V)) (F H : Hp) (Q : VK), C.K = X.K → τ.length = Ts.length → Env C (S ++ Ts) (σ ++ τ) F H → (∀ b, (m1.bind fun a => m2.bind fun b => (opDIn (d1 a) (d2 b)).map (!·)) = .ok b → ∀ F' H', Env C (S ++ Ts) (σ ++ τ) F' H' → Q (.bl b) H') → (∀ x, (m1.bind fun a => m2.bind fun b => (opDIn (d1 a) (d2 b)).map (!·)) = .exc x → ExH X w C σ x) → (m1.bind fun a => m2.bind fun b => (opDIn (d1 a) (d2 b)).map (!·)) ≠ .bad → tDNotIn (Can X e1) (Can X e2) σ H Q := by
    intro C σ τ F H Q hK hτ E hq hx hb
    refine ev2 (fun a b => (opDIn (d1 a) (d2 b)).map (!·)) h1 h2 hK hτ E (fun u v H' => ∃ a o, v = .ref a ∧ DGet H' a u o ∧ Q (.bl (!o.isSome)) H') (fun a b ha hb2 u v F' H' E' => ?_) hx hb
    rw [ok_bind ha, ok_bind hb2] at hq hx hb
    have r1 := E'.last2 (v1 a)
    have r2 := Env.last (T := Ts ++ [R1 a]) (ρ := σ ++ τ ++ [some u]) (by rw [← List.append_assoc]; exact E') (v2 b)
    cases eo : opDIn (d1 a) (d2 b) with
    | bad => rw [eo] at hb; exact absurd rfl hb
    | exc x => exact (opDIn_ne eo).elim
    | ok d =>
      have eo' := eo
      generalize d2 b = dd at r2 eo
      cases dd <;> simp only [opDIn] at eo <;> try (cases eo; done)
      rename_i es
      cases hk : keyOf (d1 a) with
      | none => rw [hk] at eo; cases eo
      | some k =>
        rw [hk] at eo
        obtain ⟨p, kvs, rfl, g1, g2⟩ := r2.dict E'.sub
        cases r1.key hk
        cases eo
        refine ⟨p, valV kvs k, rfl, DGet.rd g1, ?_⟩
        have e : (valV kvs k).isSome = (dGet es k).isSome := by
          rcases g2.get (k := k) with ⟨a1, a2⟩ | ⟨y, d', a1, a2, a3⟩ <;> rw [a1, a2] <;> rfl
        rw [e]
        exact hq _ (by rw [eo']; rfl) F' H' E'.pop.pop
  refine ⟨fun C σ τ F H Q hK hτ E hq hx hb => ⟨_, pt_cmp (pc_dnotin (by unfold cLine at *; omega) can can) hm, ?_⟩, fun C σ τ F H Q hK hτ E hq hx hb => ⟨_, pe_cmp (pc_dnotin (by unfold cLine at *; omega) can can) hm, ?_⟩⟩
  · exact key C σ τ F H _ hK hτ E (fun b hb F' H' E' => ⟨b, rfl, hq b hb F' H' E'⟩) hx hb
  · exact key C σ τ F H _ hK hτ E (fun b hb F' H' E' => hq b hb _ F' H' (E'.pushV (.bl b))) hx hb
/-- x[k] = e, x an owned dict -/
theorem es_dput (i : Nat) {mR : α → β → List (D × D) → Res Ω} (q : α → β → Option Addr) (d : α → β → List (D × D)) (v : α → D) (di : α → β → D) (hu : X.A.units + 65 < cLine) (h1 : EvE X w e S Ts m1 S1 R1) (h2 : ∀ a, EvE X w ie (S1 a) (Ts ++ [R1 a]) (m2 a) (S2 a) (R2 a)) (h3 : ∀ a b r, EvS X w rest ((S2 a b).set i (.ow (q a b) (.dict r))) Ts (mR a b r) KO)
    (hv : ∀ a, R1 a = .v (v a) := by intros; rfl) (hvi : ∀ a b, vw (S2 a b) (R2 a b) = some (di a b) := by intros; rfl) (hi1 : ∀ a, ∃ s, (S1 a)[i]? = some s ∧ ∃ q d, s = .ow q d := by intros; exact ⟨_, rfl, _, _, rfl⟩) (hi : ∀ a b, (S2 a b)[i]? = some (.ow (q a b) (.dict (d a b))) := by intros; rfl)
    (hN : X.N[i]? = some x := by rfl) (hvis : Vis X.env.scope x := by first | exact Or.inl rfl | exact Or.inr (Or.inl rfl) | exact Or.inr (Or.inr rfl))
    (hd : (x == ("__debug__" : Str)) = false := by decide) (hcd : (x == ("__classdict__" : Str)) = false := by decide)
    (hs : swapsWith e (some (.Subscript (.Name x px) ie spos)) pos.line X.env = pure false := by rfl) :
    EvS X w (.Assign [.Subscript (.Name x px) ie spos] e pos :: rest) S Ts (m1.bind fun a => (m2 a).bind fun b => if (d a b).length < sizeLine then match keyOf (di a b) with | some k => mR a b (dPut (d a b) k (v a)) | none => .bad else .bad) KO := by
  intro C σ τ F H D hK hτ E hq hx hb
  refine ⟨_, pss_cons (ps_dput (by unfold cLine at *; omega) (pe_var hN hvis hd hcd) can can hs) canB, ?_⟩
  refine h1 C σ τ F H _ hK hτ E (fun a ha u F1 H1 E1 => ?_) (fun x ex => hx x (exc_bind ex) σ) (fun eb => hb (bad_bind eb))
  rw [ok_bind ha] at hq hx hb
  have hl1 := nil_len E1.pop hτ
  obtain ⟨s, g0, q0, d0, rfl⟩ := hi1 a
  have hi0 := lt_of_get g0
  obtain ⟨p, o, a1, _⟩ := E1.pop.ow i q0 d0 (by rw [at_left hi0]; exact g0)
  rw [at_left (by omega)] at a1
  refine ⟨_, a1, ?_⟩
  refine h2 a C σ (τ ++ [some u]) F1 H1 _ hK (by simp [hτ]) (by simpa only [List.append_assoc] using E1) (fun b hb2 iv F2 H2 E2 => ?_) (fun x ex => hx x (exc_bind ex) σ) (fun eb => hb (bad_bind eb))
  rw [ok_bind hb2] at hq hx hb
  have E2' : Env C (S2 a b ++ Ts ++ [R1 a] ++ [R2 a b]) (σ ++ τ ++ [some u] ++ [some iv]) F2 H2 := by simpa only [List.append_assoc] using E2
  have ri := Env.last (T := Ts ++ [R1 a]) (ρ := σ ++ τ ++ [some u]) (by rw [← List.append_assoc]; exact E2') (hvi a b)
  have E3 := E2'.pop
  rw [hv] at E3
  obtain ⟨x1, c1, rv⟩ := E3.va (S2 a b ++ Ts).length (v a) at_last
  have hlen3 : (σ ++ τ).length = (S2 a b ++ Ts).length := E3.pop.len
  rw [← hlen3, at_last] at c1; cases c1
  have hi2 := lt_of_get (hi a b)
  have g2 : (S2 a b ++ Ts)[i]? = some (.ow (q a b) (.dict (d a b))) := by rw [at_left hi2]; exact hi a b
  obtain ⟨p', o', b1, b2, b3, b4, b5⟩ := E3.pop.ow i _ _ g2
  have b1' := b1
  have hl2 := nil_len E3.pop hτ
  rw [at_left (by omega), a1] at b1; cases b1
  obtain ⟨kvs, rfl, rk⟩ := b4
  by_cases hz : (d a b).length < sizeLine
  · rw [if_pos hz] at hq hx hb
    cases hk : keyOf (di a b) with
    | none => rw [hk] at hb; exact absurd rfl hb
    | some k =>
      rw [hk] at hq hx hb
      cases ri.key hk
      refine ⟨_, _, rfl, DPut.k b2 (by rw [rk.len]; exact hz), ?_⟩
      refine h3 a b _ C σ τ F2 _ D hK hτ ?_ hq hx hb
      have E4 := E3.pop.write (d' := .dict (dPut (d a b) k (v a))) g2 b1' (o' := .dK (putK kvs k u)) ⟨_, rfl, rk.put rv⟩
      rw [List.set_append_left _ _ hi2] at E4
      exact E4
  · rw [if_neg hz] at hb; exact absurd rfl hb
/-- del x[k], x an owned dict -/
theorem es_ddel (i : Nat) {mR : α → List (D × D) → Res Ω} {tpos : Pos} (q : α → Option Addr) (d : α → List (D × D)) (di : α → D) (h1 : EvE X w ie S Ts m1 S1 R1) (h3 : ∀ a r, EvS X w rest ((S1 a).set i (.ow (q a) (.dict r))) Ts (mR a r) KO)
    (hvi : ∀ a, vw (S1 a) (R1 a) = some (di a) := by intros; rfl) (hi1 : ∃ s, S[i]? = some s ∧ ∃ q d, s = .ow q d := by exact ⟨_, rfl, _, _, rfl⟩) (hi : ∀ a, (S1 a)[i]? = some (.ow (q a) (.dict (d a))) := by intros; rfl)
    (hN : X.N[i]? = some x := by rfl) (hvis : Vis X.env.scope x := by first | exact Or.inl rfl | exact Or.inr (Or.inl rfl) | exact Or.inr (Or.inr rfl))
    (hd : (x == ("__debug__" : Str)) = false := by decide) (hcd : (x == ("__classdict__" : Str)) = false := by decide) :
    EvS X w (.Delete [.Subscript (.Name x px) ie tpos] pos :: rest) S Ts (m1.bind fun a => match keyOf (di a) with | some k => if (dGet (d a) k).isSome then mR a (dDel (d a) k) else .bad | none => .bad) KO := by
  intro C σ τ F H D hK hτ E hq hx hb
  refine ⟨_, pss_cons (ps_ddel (pe_var hN hvis hd hcd) can) canB, ?_⟩
  have hl1 := nil_len E hτ
  obtain ⟨s, g0, q0, d0, rfl⟩ := hi1
  have hi0 := lt_of_get g0
  obtain ⟨p, o, a1, _⟩ := E.ow i q0 d0 (by rw [at_left hi0]; exact g0)
  rw [at_left (by omega)] at a1
  refine ⟨_, a1, ?_⟩
  refine h1 C σ τ F H _ hK hτ E (fun a ha u F1 H1 E1 => ?_) (fun x ex => hx x (exc_bind ex) σ) (fun eb => hb (bad_bind eb))
  rw [ok_bind ha] at hq hx hb
  have ri := E1.last (hvi a)
  have hi2 := lt_of_get (hi a)
  have g2 : (S1 a ++ Ts)[i]? = some (.ow (q a) (.dict (d a))) := by rw [at_left hi2]; exact hi a
  obtain ⟨p', o', b1, b2, b3, b4, b5⟩ := E1.pop.ow i _ _ g2
  have b1' := b1
  have hl2 := nil_len E1.pop hτ
  rw [at_left (by omega), a1] at b1; cases b1
  obtain ⟨kvs, rfl, rk⟩ := b4
  cases hk : keyOf (di a) with
  | none => rw [hk] at hb; exact absurd rfl hb
  | some k =>
    rw [hk] at hq hx hb
    simp only at hq hx hb
    cases ri.key hk
    rcases rk.get (k := k) with ⟨c1, c2⟩ | ⟨y, d', c1, c2, c3⟩
    · rw [c1] at hb; exact absurd rfl hb
    · rw [c1] at hq hx hb
      refine ⟨_, kvs, k, rfl, b2, rfl, by rw [c2]; rfl, ?_⟩
      refine h3 a _ C σ τ F1 _ D hK hτ ?_ hq hx hb
      have E4 := E1.pop.write (d' := .dict (dDel (d a) k)) g2 b1' (o' := .dK (dropK kvs k)) ⟨_, rfl, rk.del⟩
      rw [List.set_append_left _ _ hi2] at E4
      exact E4
/-- sorted(x): a list of ints, a list of texts, a dict -/
def opSorted : List D → Res (List D)
  | [.list xs] => match intsOf xs with
    | some ns => .ok ((srtI ns).map .int)
    | none => match strsOf xs with
      | some ns => if ns.length < 64 then .ok ((srtS ns).map .str) else .bad
      | none => match pairsOf xs with
        | some ps => .ok ((srtP ps).map pD)
        | none => .bad
  | [.dict es] => match strsOf (es.map (·.1)) with
    | some ns => if ns.length < 64 then .ok ((srtS ns).map .str) else .bad
    | none => match intsOf (es.map (·.1)) with
      | some ns => if ns.length < 64 then .ok ((srtI ns).map .int) else .bad
      | none => .bad
  | _ => .bad
theorem opSorted_ne {ds : List D} {z : Exn} (h : opSorted ds = .exc z) : False := by
  unfold opSorted at h
  split at h
  · split at h
    · cases h
    · split at h
      · split at h <;> cases h
      · split at h <;> cases h
  · split at h
    · split at h <;> cases h
    · split at h
      · split at h <;> cases h
      · cases h
  · cases h
theorem sorted_ok {F H : Hp} {us : List V} {ds es : List D} (hc : X.calm = true) (hs : Le F H) (h : opSorted ds = .ok es) (r : RnL X.K F H us ds) : ∀ Q : VK, (∀ p xs, H p = none → RpL X.K F xs es → Q (.ref p) (upd H p (.lst xs))) → rC X (.builtin "sorted") us H Q := by
  intro Q q
  unfold opSorted at h
  split at h
  · rename_i xs
    obtain ⟨u, rfl, r1⟩ := rnl1 r
    obtain ⟨p, vs, rfl, a, b⟩ := r1.list hs
    split at h
    · rename_i ns hn
      cases intsOf_ok hn
      cases b.ints
      cases h
      refine ⟨_, cr_sortedI, p, ns, rfl, .inl a, fun ns' p' h1 h2 h3 => q p' _ h3 ?_⟩
      rw [srtI_of h1 h2]
      exact RpL.of_ints _
    · split at h
      · rename_i ns hn
        cases strsOf_ok hn
        cases b.strs
        split at h
        · cases h
          refine ⟨_, cr_sortedS, p, ns, rfl, .inl a, by assumption, fun ns' p' h1 h2 h3 => q p' _ h3 ?_⟩
          rw [srtS_of h1 h2]
          exact RpL.of_strs _
        · cases h
      · split at h
        · rename_i ps hps
          cases pairsOf_ok hps
          cases h
          exact ⟨_, cr_sortedPP, p, vs, ps, rfl, .inl a, by have := b.len; rwa [List.length_map] at this, rpP_items hs b, fun k hk zs p' h1 h2 h3 => q p' _ h3 (rpP_sorted b hk h1 h2)⟩
        · cases h
  · rename_i es0
    obtain ⟨u, rfl, r1⟩ := rnl1 r
    obtain ⟨p, kvs, rfl, a, b⟩ := r1.dict hs
    split at h
    · rename_i ns hn
      split at h
      · cases h
        refine ⟨_, call_sortedD hc, p, kvs, ns, rfl, a, b.keyStrs hn, by assumption, fun ns' p' h1 h2 h3 => q p' _ h3 ?_⟩
        rw [srtS_of h1 h2]
        exact RpL.of_strs _
      · cases h
    · split at h
      · rename_i ns hn
        split at h
        · cases h
          refine ⟨_, call_sortedDI hc, p, kvs, ns, rfl, a, b.keyInts hn, by assumption, fun ns' p' h1 h2 h3 => q p' _ h3 ?_⟩
          rw [srtI_of h1 h2]
          exact RpL.of_ints _
        · cases h
      · cases h
  · cases h
/-- list(x): a list, a tuple, a dict -/
def opList : List D → Res (List D)
  | [.list xs] => .ok xs
  | [.tup xs] => .ok xs
  | [.dict es] => .ok (es.map (·.1))
  | _ => .bad
theorem opList_ne {ds : List D} {z : Exn} (h : opList ds = .exc z) : False := by unfold opList at h; split at h <;> cases h
theorem list_ok {F H : Hp} {us : List V} {ds es : List D} (hc : X.calm = true) (hs : Le F H) (h : opList ds = .ok es) (r : RnL X.K F H us ds) : ∀ Q : VK, (∀ p xs, H p = none → RpL X.K F xs es → Q (.ref p) (upd H p (.lst xs))) → rC X (.type "list") us H Q := by
  intro Q q
  unfold opList at h
  split at h
  · cases h
    obtain ⟨u, rfl, r1⟩ := rnl1 r
    obtain ⟨p, vs, rfl, a, b⟩ := r1.list hs
    exact ⟨_, call_list_of, p, vs, rfl, .inl (.inl a), fun l hl => q l vs hl b⟩
  · cases h
    obtain ⟨u, rfl, r1⟩ := rnl1 r
    obtain ⟨p, vs, rfl, a, b⟩ := r1.tup hs
    exact ⟨_, call_list_of, p, vs, rfl, .inr a, fun l hl => q l vs hl b⟩
  · cases h
    obtain ⟨u, rfl, r1⟩ := rnl1 r
    obtain ⟨p, kvs, rfl, a, b⟩ := r1.dict hs
    exact ⟨_, call_listD hc, p, kvs, rfl, a, fun l hl => q l _ hl b.keys⟩
  · cases h
end
end G
namespace G
open PySem L2
variable {C : EC} {L : List Sl} {ρ : List (Option V)} {F H : Hp}
/-- the context while the dict at p is locked -/
def EC.lk (C : EC) (F : Hp) (p : Addr) (o : HO) : EC := ⟨C.K, F, upd C.H0 p o, C.io.filter (fun b => decide (b ≠ p))⟩
theorem Env.locked {p : Addr} {o0 : HO} {od : Obj} {kvs : List (Key × V)} (E : Env C L ρ F H) (h0 : H p = some o0) (ho : o0 = .dK kvs ∨ o0 = .frz od (.dK kvs)) (hno : ∀ (j : Nat) q d, L[j]? = some (.ow q d) → ρ[j]? = some (some (.ref p)) → False) :
    Env (C.lk F p (.frz od (.dK kvs))) L ρ F (upd H p (.frz od (.dK kvs))) := by
  have hT : ∀ {o : HO}, H p = some o → ∀ d, Top C.K F o d → o = .dK kvs := fun {o} e d t => by
    rw [h0] at e; cases e
    rcases ho with rfl | rfl
    · rfl
    · exact t.mut.elim
  refine ⟨E.len, fun a u r => ?_, E.va, fun i q d e => ?_, fun i d e => ?_, E.al, fun i ds e => ?_, E.apart, fun b o e n => ?_, ⟨Le.refl F, E.gg.2⟩, fun b hb => .inl hb⟩
  · have r2 := E.sub a u r
    by_cases ha : a = p
    · subst ha
      have hu : ∀ o x, u ≠ .frz o x := fun o x z => by
        subst z
        rcases r with r | ⟨_, r⟩ <;> exact E.gg.2 _ _ _ r
      unfold Rd at r2 ⊢
      rw [h0] at r2
      rw [upd_same]
      rcases r2 with r2 | ⟨x, r2⟩
      · cases r2
        rcases ho with rfl | rfl
        · exact .inr ⟨_, rfl⟩
        · exact absurd rfl (hu _ _)
      · cases r2
        rcases ho with z | z
        · cases z
        · cases z; exact .inr ⟨_, rfl⟩
    · unfold Rd at r2 ⊢; rwa [upd_ne ha]
  · obtain ⟨p', o, a, b, c, t, f, g⟩ := E.ow i q d e
    have hn : p' ≠ p := fun z => by subst z; exact hno i q d e a
    refine ⟨p', o, a, by rw [upd_ne hn]; exact b, c, t, ?_, g⟩
    rcases f with f | f
    · exact .inl (by show upd C.H0 p _ p' = none; rw [upd_ne hn]; exact f)
    · exact .inr (List.mem_filter.mpr ⟨f, by simpa using hn⟩)
  · obtain ⟨x, a, b⟩ := E.rd i d e
    refine ⟨x, a, b.imp id ?_⟩
    rintro ⟨p', o, e1, e2, e3, e4⟩
    refine ⟨p', o, e1, ?_, e3, e4⟩
    by_cases hp : p' = p
    · subst hp
      unfold Rd at e2 ⊢
      rw [upd_same]
      rw [h0] at e2
      rcases e2 with e2 | ⟨x, e2⟩
      · cases e2
        cases hT h0 d e3; exact .inr ⟨_, rfl⟩
      · cases e2
        rcases ho with z | z
        · cases z
        · cases z; exact .inr ⟨_, rfl⟩
    · unfold Rd at e2 ⊢; rwa [upd_ne hp]
  · obtain ⟨p', xs, a, b, c⟩ := E.sc i ds e
    refine ⟨p', xs, a, b.imp (fun ⟨ob, z⟩ => ⟨ob, ?_⟩) id, c⟩
    have hn : p' ≠ p := fun y => by
      subst y
      rw [h0] at z; cases z
      rcases ho with z | z <;> cases z
    rw [upd_ne hn]; exact z
  · by_cases hb : b = p
    · subst hb
      have : upd C.H0 b (.frz od (.dK kvs)) b = some o := e
      rw [upd_same] at this
      rw [upd_same]; exact this
    · have e' : C.H0 b = some o := by have : upd C.H0 p _ b = some o := e; rwa [upd_ne hb] at this
      rw [upd_ne hb]
      exact E.hold b o e' fun m => n (List.mem_filter.mpr ⟨m, by simpa using hb⟩)
theorem Env.lk_at {p : Addr} {o : HO} {L2 : List Sl} {ρ2 : List (Option V)} {F0 F2 H2 : Hp} (E2 : Env (C.lk F0 p o) L2 ρ2 F2 H2) : H2 p = some o :=
  E2.hold p o upd_same fun m => by simpa using (List.mem_filter.mp m).2
theorem Env.unlocked {p : Addr} {o0 : HO} {od : Obj} {kvs : List (Key × V)} {L2 : List Sl} {ρ2 : List (Option V)} {F2 H2 : Hp} (E : Env C L ρ F H) (h0 : H p = some o0) (ho : o0 = .dK kvs ∨ o0 = .frz od (.dK kvs)) (E2 : Env (C.lk F p (.frz od (.dK kvs))) L2 ρ2 F2 H2) : Env C L2 ρ2 F2 (upd H2 p o0) := by
  have hp2 : H2 p = some (.frz od (.dK kvs)) := E2.lk_at
  have rdp : Rd (upd H2 p o0) p (.dK kvs) := by
    unfold Rd; rw [upd_same]
    rcases ho with rfl | rfl
    · exact .inl rfl
    · exact .inr ⟨_, rfl⟩
  refine ⟨E2.len, fun a u r => ?_, E2.va, fun i q d e => ?_, fun i d e => ?_, E2.al, fun i ds e => ?_, E2.apart, fun b o e n => ?_, ⟨E.gg.1.trans E2.gg.1, E2.gg.2⟩, fun b hb => ?_⟩
  · have r2 := E2.sub a u r
    by_cases ha : a = p
    · subst ha
      have hu : ∀ o x, u ≠ .frz o x := fun o x z => by
        subst z
        rcases r with r | ⟨_, r⟩ <;> exact E2.gg.2 _ _ _ r
      unfold Rd at r2
      rw [hp2] at r2
      rcases r2 with r2 | ⟨x, r2⟩
      · cases r2; exact absurd rfl (hu _ _)
      · cases r2; exact rdp
    · unfold Rd at r2 ⊢; rwa [upd_ne ha]
  · obtain ⟨p', o, a, b, c, t, f, g⟩ := E2.ow i q d e
    have hn : p' ≠ p := fun z => by
      subst z
      rw [hp2] at b; cases b
      exact t.mut.elim
    refine ⟨p', o, a, by rw [upd_ne hn]; exact b, c, t, ?_, g⟩
    rcases f with f | f
    · refine .inl ?_
      have : upd C.H0 p _ p' = none := f
      rwa [upd_ne hn] at this
    · exact .inr (List.mem_filter.mp f).1
  · obtain ⟨x, a, b⟩ := E2.rd i d e
    refine ⟨x, a, b.imp id ?_⟩
    rintro ⟨p', o, e1, e2, e3, e4⟩
    refine ⟨p', o, e1, ?_, e3, e4⟩
    by_cases hp : p' = p
    · subst hp
      unfold Rd at e2
      rw [hp2] at e2
      rcases e2 with e2 | ⟨x, e2⟩
      · cases e2; exact (Top.mut e3).elim
      · cases e2; exact rdp
    · unfold Rd at e2 ⊢; rwa [upd_ne hp]
  · obtain ⟨p', xs, a, b, c⟩ := E2.sc i ds e
    refine ⟨p', xs, a, b.imp (fun ⟨ob, z⟩ => ⟨ob, ?_⟩) id, c⟩
    have hn : p' ≠ p := fun y => by
      subst y
      rw [hp2] at z; cases z
    rw [upd_ne hn]; exact z
  · by_cases hb : b = p
    · subst hb
      rw [upd_same]
      have := E.hold b o e n
      rw [h0] at this; exact this
    · rw [upd_ne hb]
      refine E2.hold b o (by show upd C.H0 p _ b = some o; rw [upd_ne hb]; exact e) fun m => n (List.mem_filter.mp m).1
  · rcases E2.gn b hb with h | h | h
    · exact E.gn b h
    · by_cases hb : b = p
      · subst hb
        have : upd C.H0 b _ b = none := h
        rw [upd_same] at this; cases this
      · exact .inr (.inl (by have : upd C.H0 p _ b = none := h; rwa [upd_ne hb] at this))
    · exact .inr (.inr (List.mem_filter.mp h).1)
/-- a dict in a slot, to be locked -/
def dsl : Sl → Option (List (D × D))
  | .v (.dict es) => some es
  | .rd (.dict es) => some es
  | _ => none
theorem Env.dslot {i : Nat} {s : Sl} {es : List (D × D)} (E : Env C L ρ F H) (hs : L[i]? = some s) (hd : dsl s = some es) : ∃ p kvs o0 od, ρ[i]? = some (some (.ref p)) ∧ H p = some o0 ∧ (o0 = .dK kvs ∨ o0 = .frz od (.dK kvs)) ∧ RpK C.K F kvs es ∧ ∀ (j : Nat) q d, L[j]? = some (.ow q d) → ρ[j]? = some (some (.ref p)) → False := by
  have fin : ∀ {p : Addr} {kvs : List (Key × V)}, Rd H p (.dK kvs) → ∃ o0 od, H p = some o0 ∧ (o0 = .dK kvs ∨ o0 = .frz od (.dK kvs)) := fun {p kvs} r => by
    rcases r with r | ⟨od, r⟩
    · exact ⟨_, default, r, .inl rfl⟩
    · exact ⟨_, od, r, .inr rfl⟩
  have fz : ∀ {x : V} {p : Addr} {kvs : List (Key × V)}, Rd F p (.dK kvs) → ∀ (j : Nat) q d, L[j]? = some (.ow q d) → ρ[j]? = some (some (.ref p)) → False := fun {x p kvs} r j q d e1 e2 => by
    obtain ⟨p', o, a, b, c, _⟩ := E.ow j q d e1
    rw [e2] at a; cases a
    exact Rd.ne_none r c
  unfold dsl at hd
  split at hd
  · cases hd
    obtain ⟨x, a, b⟩ := E.va i _ hs
    cases b with
    | dic r k =>
      obtain ⟨o0, od, h1, h2⟩ := fin (E.sub _ _ r)
      exact ⟨_, _, o0, od, a, h1, h2, k, fz (x := V.non) r⟩
  · cases hd
    obtain ⟨x, a, b⟩ := E.rd i _ hs
    rcases b with b | ⟨p, o, rfl, r, t, h4⟩
    · cases b with
      | dic r k =>
        obtain ⟨o0, od, h1, h2⟩ := fin (E.sub _ _ r)
        exact ⟨_, _, o0, od, a, h1, h2, k, fz (x := V.non) r⟩
    · obtain ⟨kvs, rfl, k⟩ := t
      obtain ⟨o0, od, h1, h2⟩ := fin r
      exact ⟨p, kvs, o0, od, a, h1, h2, k, h4⟩
  · cases hd
end G
namespace G
open PySem L2
section
variable {α β γ δ Ω ε : Type} {X : Cx} {w : Wx} {S Ts : List Sl} {tg iter : Expr} {body rest : List Stmt} {mi : Res α} {Si : α → List Sl} {Rs : α → List Sl} {ss : α → List Src} {ds : α → List D} {SJ : β → List Sl} {K : Ω → Out} {pos : Pos}
theorem for_core {KE : ε → Out} {mg : β → D → Res γ} {Sg : β → D → γ → List Sl} {mB : β → D → γ → Res (β ⊕ Ex β ε)} {ks : List Nat} (b0 : α → β) {C : EC} {σ : St} {τ : List (Option V)} {H : Hp} {D : Ends}
    (hK : C.K = X.K) (hτ : τ.length = Ts.length) (hi : EvIC C σ τ H X tg iter Ts mi Si Rs ss ds) (wk : ∀ a, WL (Si a) (SJ (b0 a)))
    (hg : ∀ b d, EvG X tg (SJ b) d (mg b d) (Sg b d) ks) (hB : ∀ a b d g, EvS X w body (Sg b d g) (Ts ++ Rs a) (mB b d g) (turnK SJ KE))
    (hv : ∀ a b, pvs (SJ b) (Rs a) (ss a)) (hal : ∀ a b, (SJ b ++ (Ts ++ Rs a)).all (fun s => ks.all (noalk · s)) = true)
    (hnx : ∀ a b, mi = .ok a → (forD (fun b d => (mg b d).bind (mB b d)) (ds a) (b0 a) = .ok (.inl b) ∨ forD (fun b d => (mg b d).bind (mB b d)) (ds a) (b0 a) = .ok (.inr (.brk b))) → ∀ σ' (us : List V) F' H', us.length = (Rs a).length → Env C (SJ b ++ Ts ++ Rs a) (σ' ++ τ ++ us.map some) F' H' → D.nx σ' H')
    (hrt : ∀ a o, mi = .ok a → forD (fun b d => (mg b d).bind (mB b d)) (ds a) (b0 a) = .ok (.inr (.ret o)) → ∃ S0 R0, KE o = .rt S0 R0 ∧ ∀ σ' (us : List V) u F' H', us.length = (Rs a).length → Env C (S0 ++ Ts ++ Rs a ++ [R0]) (σ' ++ τ ++ us.map some ++ [some u]) F' H' → D.rt u H')
    (hx : ∀ a x, mi = .ok a → forD (fun b d => (mg b d).bind (mB b d)) (ds a) (b0 a) = .exc x → ∀ σ', ExH X w C σ' x) (hb : ∀ a, mi = .ok a → forD (fun b d => (mg b d).bind (mB b d)) (ds a) (b0 a) ≠ .bad) :
    tFor (CanI X tg iter) (CanG X tg) (CanB X body) D σ H := by
  refine hi _ (fun a ha us F1 H1 J hlu E1 hJ => ?_)
  have hnx := fun b => hnx a b ha
  have hrt := fun o => hrt a o ha
  have hx := fun x => hx a x ha
  have hb := hb a ha
  generalize hr : forD (fun b d => (mg b d).bind (mB b d)) (ds a) (b0 a) = r at hnx hrt hx hb
  have hτ2 : (τ ++ us.map some).length = (Ts ++ Rs a).length := by simp [hτ, hlu]
  refine ⟨fun i n σ' H' => ∃ b F', n = (ds a).length - i ∧ i ≤ (ds a).length ∧ Env C (SJ b ++ (Ts ++ Rs a)) (σ' ++ (τ ++ us.map some)) F' H' ∧ forD (fun b d => (mg b d).bind (mB b d)) ((ds a).drop i) b = r, ⟨(ds a).length, b0 a, F1, by simp, Nat.zero_le _, ?_, hr⟩, ?_⟩
  · rw [← List.append_assoc, ← List.append_assoc]
    exact E1.wk ((wl_pre (wk a)).app (WL.refl _))
  rintro i n σ' H' ⟨b, F', rfl, hin, E', hd⟩
  have EJ : Env C (SJ b ++ Ts ++ Rs a) (σ' ++ τ ++ us.map some) F' H' := by simpa only [List.append_assoc] using E'
  obtain ⟨j1, j2⟩ := hJ C (SJ b) Ts (σ' ++ τ) F' H' i hK rfl rfl (Le.refl _) EJ (hv a b)
  by_cases hlt : i < (ds a).length
  · have hdi : (ds a)[i]? = some (ds a)[i] := List.getElem?_eq_getElem hlt
    obtain ⟨g1, g2⟩ := j1 _ hdi
    have hdr : (ds a).drop i = (ds a)[i] :: (ds a).drop (i + 1) := List.drop_eq_getElem_cons hlt
    rw [hdr] at hd
    simp only [forD] at hd
    refine .inr ⟨g1, fun σ2 H2 => ∃ b F2, Env C (SJ b ++ (Ts ++ Rs a)) (σ2 ++ (τ ++ us.map some)) F2 H2 ∧ forD (fun b d => (mg b d).bind (mB b d)) ((ds a).drop (i + 1)) b = r, fun σ2 H2 ⟨b2, F2, e2, h2⟩ => ⟨(ds a).length - (i + 1), by omega, b2, F2, rfl, hlt, e2, h2⟩, fun x H2 hy => ?_⟩
    obtain ⟨F2, E2, rx⟩ := g2 x H2 hy
    have E2' : Env C (SJ b ++ (Ts ++ Rs a)) (σ' ++ (τ ++ us.map some)) F2 H2 := by simpa only [List.append_assoc] using E2
    refine hg b _ C (Ts ++ Rs a) σ' (τ ++ us.map some) F2 H2 x _ hK hτ2 E2' rx (hal a b) (fun g hgo σ3 _ E3 => ?_) (fun eb => hb (by rw [← hd, bad_bind (bad_bind eb)]))
    rw [ok_bind hgo] at hd
    refine hB a b _ g C σ3 (τ ++ us.map some) F2 H2 _ hK hτ2 E3 (fun o ho => ?_) (fun x ex => hx x (by rw [← hd, exc_bind ex])) (fun eb => hb (by rw [← hd, bad_bind eb]))
    rw [ok_bind ho] at hd
    cases o with
    | inl b' => exact ⟨fun σ4 F4 H4 E4 => ⟨b', F4, E4, hd⟩, fun σ4 F4 H4 E4 => ⟨b', F4, E4, hd⟩⟩
    | inr o =>
      subst hd
      cases o with
      | brk b' =>
        intro σ4 F4 H4 E4
        exact hnx b' (.inr rfl) σ4 us F4 H4 hlu (by simpa only [List.append_assoc] using E4)
      | ret o =>
        obtain ⟨S0, R0, e0, hn⟩ := hrt o rfl
        show OutOk C _ _ _ (KE o)
        rw [e0]
        intro σ4 u F4 H4 E4
        exact hn σ4 us u F4 H4 hlu (by simpa only [List.append_assoc] using E4)
  · have e0 : i = (ds a).length := by omega
    subst e0
    rw [List.drop_length] at hd
    simp only [forD] at hd
    subst hd
    exact .inl ⟨j2 (Nat.le_refl _), hnx b (.inl rfl) σ' us F' H' hlu EJ⟩
def nox {α : Type} : Res α → Res α
  | .exc _ => .bad
  | m => m
theorem nox_ok {α : Type} {m : Res α} {a : α} (h : m = .ok a) : nox m = .ok a := by rw [h]; rfl
theorem RpK.ix {K : PySem.W.Frag} {F : Hp} : ∀ {kvs : List (Key × V)} {es : List (D × D)} {i : Nat}, RpK K F kvs es → i < es.length → ∃ k d v, kvs[i]? = some (k, v) ∧ es[i]? = some (kD k, d) ∧ Rp K F v d
  | _, _, _, .nil, h => by simp at h
  | _, _, 0, .cons r t, _ => ⟨_, _, _, rfl, rfl, r⟩
  | _, _, i + 1, .cons r t, h => by
    obtain ⟨k, d, v, a, b, c⟩ := RpK.ix (i := i) t (by simpa using h)
    exact ⟨k, d, v, by simpa using a, by simpa using b, c⟩
/-- a walk over the locked dict in the slot i -/
def LkI (X : Cx) (tg iter : Expr) (i : Nat) (f : List (D × D) → List D) : Prop := ∀ (C : EC) (σ : St) (τ : List (Option V)) (S Ts : List Sl) (F H : Hp) (p : Addr) (od : Obj) (kvs : List (Key × V)) (es : List (D × D)), C.K = X.K → Env C (S ++ Ts) (σ ++ τ) F H → σ[i]? = some (some (.ref p)) → C.H0 p = some (.frz od (.dK kvs)) → p ∉ C.io → RpK C.K C.F0 kvs es →
  EvIC C σ τ H X tg iter Ts (Res.ok ()) (fun _ => S) (fun _ => []) (fun _ => []) (fun _ => f es)
theorem lk_it {C0 : EC} {X : Cx} {p : Addr} {od : Obj} {kvs : List (Key × V)} {es : List (D × D)} {J : It} {ds : List D} (h0 : C0.H0 p = some (.frz od (.dK kvs))) (hio : p ∉ C0.io) (hk : RpK C0.K C0.F0 kvs es) (hCK : C0.K = X.K) (hl : ds.length = es.length)
    (hgo : ∀ (C : EC) (L : List Sl) (ρ : List (Option V)) (F H : Hp) (i : Nat) (k : Key) (d : D) (v : V), C.K = X.K → Env C L ρ F H → H p = some (.frz od (.dK kvs)) → kvs[i]? = some (k, v) → es[i]? = some (kD k, d) → Rp X.K F v d → J.go i H ∧ ∃ d', ds[i]? = some d' ∧ ∀ x H', J.yld i H x H' → ∃ F', Env C L ρ F' H' ∧ Rp X.K F' x d')
    (hst : ∀ (H : Hp) (i : Nat), H p = some (.frz od (.dK kvs)) → kvs.length ≤ i → J.stop i H) : ItOkC C0 X J [] [] [] ds := by
  intro C L T ρ F H i hK e1 e2 le E hv
  have hp : H p = some (.frz od (.dK kvs)) := E.hold p _ (by rw [e1]; exact h0) (by rw [e2]; exact hio)
  have hk2 : RpK X.K F kvs es := by rw [hCK] at hk; exact hk.mono (le.trans E.gg.1)
  refine ⟨fun d hd => ?_, fun hl2 => hst H i hp (by rw [hk2.len]; omega)⟩
  have hi : i < es.length := by have := lt_of_get hd; omega
  obtain ⟨k, d1, v, k1, k2, k3⟩ := hk2.ix hi
  obtain ⟨a, d', b, c⟩ := hgo C _ _ F H i k d1 v hK E hp k1 k2 k3
  rw [hd] at b; cases b
  exact ⟨a, c⟩
def itemsD (es : List (D × D)) : List D := es.map fun e => .tup [e.1, e.2]
def keysD (es : List (D × D)) : List D := es.map (·.1)
def valsD (es : List (D × D)) : List D := es.map (·.2)
variable {x : Str} {px apos cpos : Pos}
theorem lki_items {elts : List Expr} {kk : Nat} {tpos : Pos} (i : Nat) (hN : X.N[i]? = some x := by rfl) (hvis : Vis X.env.scope x := by first | exact Or.inl rfl | exact Or.inr (Or.inl rfl) | exact Or.inr (Or.inr rfl)) (hd : (x == ("__debug__" : Str)) = false := by decide) (hcd : (x == ("__classdict__" : Str)) = false := by decide)
    (hbase : attributeBase (.Name x px) "items" X.env (eval (.Name x px) X.env) = eval (.Name x px) X.env := by rfl) (hline : (apos.endLine == cpos.line) = true := by rfl) : LkI X (.Tuple elts kk tpos) (.Call (.Attribute (.Name x px) "items" apos) [] [] cpos) i itemsD := by
  intro C σ τ S Ts F H p od kvs es hK E hp h0 hio hk Q hQ
  refine ⟨_, pi_items (pe_var hN hvis hd hcd) hbase hline, .ref p, hp, p, od, kvs, rfl, E.hold p _ h0 hio, hQ () rfl [] F H _ rfl (by simpa using E) (lk_it h0 hio hk hK (by simp [itemsD]) (fun C L ρ F H i k d v hK E hp a b c => ⟨⟨hp, lt_of_get a⟩, _, by unfold itemsD; rw [List.getElem?_map, b]; rfl, fun y H' hy => ?_⟩) fun H i hp hl => ⟨hp, hl⟩)⟩
  obtain ⟨T, k2, v2, z1, rfl, z3, rfl⟩ := hy
  rw [a] at z1; cases z1
  have := E.newTup z3 (.cons (Rp.kD k) (.cons (by rw [hK]; exact c) .nil))
  rw [hK] at this
  exact ⟨_, this.1, this.2⟩
theorem lki_keys (i : Nat) (hN : X.N[i]? = some x := by rfl) (hvis : Vis X.env.scope x := by first | exact Or.inl rfl | exact Or.inr (Or.inl rfl) | exact Or.inr (Or.inr rfl)) (hd : (x == ("__debug__" : Str)) = false := by decide) (hcd : (x == ("__classdict__" : Str)) = false := by decide) : LkI X tg (.Name x px) i keysD := by
  intro C σ τ S Ts F H p od kvs es hK E hp h0 hio hk Q hQ
  refine ⟨_, pi_keys (pe_var hN hvis hd hcd), .ref p, hp, p, od, rfl, .inl ⟨kvs, E.hold p _ h0 hio, hQ () rfl [] F H _ rfl (by simpa using E) (lk_it h0 hio hk hK (by simp [keysD]) (fun C L ρ F H i k d v hK E hp a b c => ⟨⟨hp, lt_of_get a⟩, _, by unfold keysD; rw [List.getElem?_map, b]; rfl, fun y H' hy => ?_⟩) fun H i hp hl => ⟨hp, hl⟩)⟩⟩
  obtain ⟨rfl, k2, v2, z1, rfl⟩ := hy
  rw [a] at z1; cases z1
  exact ⟨F, E, Rp.kD k⟩
theorem lki_vals (i : Nat) (hN : X.N[i]? = some x := by rfl) (hvis : Vis X.env.scope x := by first | exact Or.inl rfl | exact Or.inr (Or.inl rfl) | exact Or.inr (Or.inr rfl)) (hd : (x == ("__debug__" : Str)) = false := by decide) (hcd : (x == ("__classdict__" : Str)) = false := by decide)
    (hbase : attributeBase (.Name x px) "values" X.env (eval (.Name x px) X.env) = eval (.Name x px) X.env := by rfl) (hline : (apos.endLine == cpos.line) = true := by rfl) : LkI X tg (.Call (.Attribute (.Name x px) "values" apos) [] [] cpos) i valsD := by
  intro C σ τ S Ts F H p od kvs es hK E hp h0 hio hk Q hQ
  refine ⟨_, pi_values (pe_var hN hvis hd hcd) hbase hline, .ref p, hp, p, od, kvs, rfl, E.hold p _ h0 hio, hQ () rfl [] F H _ rfl (by simpa using E) (lk_it h0 hio hk hK (by simp [valsD]) (fun C L ρ F H i k d v hK E hp a b c => ⟨⟨hp, lt_of_get a⟩, _, by unfold valsD; rw [List.getElem?_map, b]; rfl, fun y H' hy => ?_⟩) fun H i hp hl => ⟨hp, hl⟩)⟩
  obtain ⟨rfl, k2, z1⟩ := hy
  rw [a] at z1; cases z1
  exact ⟨F, E, c⟩
/-- for .. in the dict of the slot i -/
theorem es_forL {KE : ε → Out} {mg : β → D → Res γ} {Sg : β → D → γ → List Sl} {mB : β → D → γ → Res (β ⊕ Ex β ε)} {ks : List Nat} {mR : β → Res Ω} {f : List (D × D) → List D} {s : Sl} {es : List (D × D)} (i : Nat) (SJ : β → List Sl) (b0 : β) (emb : ε → Ω)
    (hp : PassesOwn (model X.prog X.w) X.A X.env X.xe) (hc : X.calm = true) (hL : LkI X tg iter i f) (wk : WL S (SJ b0))
    (hg : ∀ b d, EvG X tg (SJ b) d (mg b d) (Sg b d) ks) (hB : ∀ b d g, EvS X w body (Sg b d g) Ts (mB b d g) (turnK SJ KE)) (hR : ∀ b, EvS X w rest (SJ b) Ts (mR b) K)
    (hs0 : S[i]? = some s := by rfl) (hds : dsl s = some es := by rfl)
    (hal : ∀ b, (SJ b ++ Ts).all (fun s => ks.all (noalk · s)) = true := by intros; rfl)
    (hs : ∀ o, ∃ S R, KE o = .rt S R ∧ noal R = true := by intro o; first | exact ⟨_, _, rfl, rfl⟩ | exact ⟨_, _, rfl, optS_noal _⟩) (hl : ∀ o, K (emb o) = KE o := by intro o; rfl)
    (hf : ∀ x, foldedSetIterable iter X.env x = pure x := by intro _; rfl) :
    EvS X w (.For tg iter body [] pos :: rest) S Ts ((nox (forD (fun b d => (mg b d).bind (mB b d)) (f es) b0)).bind fun r => match r with | .inl b => mR b | .inr (.brk b) => mR b | .inr (.ret o) => .ok (emb o)) K := by
  intro C σ τ F H D hK hτ E hq hx hb
  have hi := lt_of_get hs0
  have hσl := nil_len E hτ
  obtain ⟨p, kvs, o0, od0, a1, a2, a3, a4, a5⟩ := E.dslot (i := i) (by rw [at_left hi]; exact hs0) hds
  have a1' : σ[i]? = some (some (.ref p)) := by rwa [at_left (by omega)] at a1
  cases hm : forD (fun b d => (mg b d).bind (mB b d)) (f es) b0 with
  | bad => rw [hm] at hb; exact absurd rfl hb
  | exc x => rw [hm] at hb; exact absurd rfl hb
  | ok r =>
    rw [hm] at hq hx hb
    have core : ∀ (od : Obj) (ho : o0 = .dK kvs ∨ o0 = .frz od (.dK kvs)) (D1 : Ends), (∀ σ' H', H' p = some (.frz od (.dK kvs)) → CanB X rest D σ' (upd H' p o0) → D1.nx σ' H') → (∀ v H', H' p = some (.frz od (.dK kvs)) → D.rt v (upd H' p o0) → D1.rt v H') →
        tFor (CanI X tg iter) (CanG X tg) (CanB X body) D1 σ (upd H p (.frz od (.dK kvs))) := fun od ho D1 h1 h2 => by
      have E1 := E.locked (p := p) (od := od) a2 ho a5
      refine for_core (C := C.lk F p (.frz od (.dK kvs))) (w := w) (KE := KE) (mi := Res.ok ()) (Si := fun _ => S) (Rs := fun _ => []) (ss := fun _ => []) (ds := fun _ => f es) (SJ := SJ) (fun _ => b0) hK hτ
        (hL (C.lk F p (.frz od (.dK kvs))) σ τ S Ts F _ p od kvs es hK E1 a1' upd_same (fun m => by simpa using (List.mem_filter.mp m).2) a4) (fun _ => wk) hg (fun _ b d g => by simpa using hB b d g) (fun _ _ => trivial) (fun _ b => by simpa using hal b) (fun a b _ he σ' us F' H' hl0 E' => ?_) (fun a o _ he => ?_) (fun a x _ he => ?_) (fun a _ he => ?_)
      · have us0 : us = [] := List.length_eq_zero_iff.mp hl0
        subst us0
        have E2 : Env (C.lk F p (.frz od (.dK kvs))) (SJ b ++ Ts) (σ' ++ τ) F' H' := by simpa using E'
        refine h1 σ' H' E2.lk_at ?_
        have E3 := E.unlocked a2 ho E2
        have hr : r = .inl b ∨ r = .inr (.brk b) := by rcases he with he | he <;> (rw [hm] at he; cases he; simp)
        have eq : (nox (.ok r)).bind (fun r => match r with | .inl b => mR b | .inr (.brk b) => mR b | .inr (.ret o) => .ok (emb o)) = mR b := by rcases hr with rfl | rfl <;> rfl
        rw [eq] at hq hx hb
        exact hR b C σ' τ F' _ D hK hτ E3 hq hx hb
      · rw [hm] at he; cases he
        obtain ⟨S0, R0, e0, hn⟩ := hs o
        refine ⟨S0, R0, e0, fun σ' us u F' H' hl0 E' => ?_⟩
        have us0 : us = [] := List.length_eq_zero_iff.mp hl0
        subst us0
        have E2 : Env (C.lk F p (.frz od (.dK kvs))) (S0 ++ Ts ++ [R0]) (σ' ++ τ ++ [some u]) F' H' := by simpa using E'
        refine h2 u H' E2.lk_at ?_
        have := hq (emb o) rfl
        rw [hl, e0] at this
        exact this σ' u F' _ (E.unlocked a2 ho E2)
      · rw [hm] at he; cases he
      · rw [hm] at he; cases he
    rcases a3 with rfl | rfl
    · refine ⟨_, pss_cons (ps_lock (ps_for hp hc canI canG canB hf)) canB, ?_⟩
      exact ⟨p, .dK kvs, a2, trivial, fun od => core od (.inl rfl) _ (fun σ' H' e q => ⟨e, q⟩) (fun v H' e q => ⟨e, q⟩)⟩
    · refine ⟨_, pss_cons (ps_for hp hc canI canG canB hf) canB, ?_⟩
      have eH : ∀ {G : Hp}, G p = some (.frz od0 (.dK kvs)) → upd G p (.frz od0 (.dK kvs)) = G := fun {G} e => by
        funext b
        by_cases hb : b = p
        · subst hb; rw [upd_same]; exact e.symm
        · rw [upd_ne hb]
      have := core od0 (.inr rfl) { D with nx := CanB X rest D } (fun σ' H' e q => by rw [eH e] at q; exact q) (fun v H' e q => by rw [eH e] at q; exact q)
      rw [eH a2] at this
      exact this
end
end G
namespace G
open PySem L2 PySem.Spec PyProof.Rows
section
variable {X : Cx}
/-- name = {..}, told into the name -/
theorem ps_setDc {i : Nat} {y : Str} {py : Pos} {kx vx tg iter : Expr} {ifs : List Expr} {scope : Scope} {own : List (Str × Nat)} {pos spos : Pos} {wi : TI} {g : TG} {tt : TT} {tk tv : TE} (hc : X.calm = true) (hN : X.N.Nodup) (hy : X.N[i]? = some y) (hyl : X.env.scope.names.lookup y = some .local)
    (hsw : swapsWith (.DictComp kx vx [⟨tg, iter, ifs, 0⟩] scope pos) (some (.Name y py)) spos.line X.env = pure true) (hi : PI X tg iter wi) (ok : BlkOk X.N X.env.scope scope own)
    (hg : ∀ (s : Shared) (H : Hp) (C : Addr) (cl : List (Str × Addr)) (fp : List Addr), PG (X.blk s H scope (compEnvC scope cl C X.env) fp) tg g) (ht : ∀ (s : Shared) (H : Hp) (C : Addr) (cl : List (Str × Addr)) (fp : List Addr), PTs (X.blk s H scope (compEnvC scope cl C X.env) fp) ifs tt)
    (hk : ∀ (s : Shared) (H : Hp) (C : Addr) (cl : List (Str × Addr)) (fp : List Addr), PE (X.blk s H scope (compEnvC scope cl C X.env) fp) kx tk)
    (he : ∀ (s : Shared) (H : Hp) (C : Addr) (cl : List (Str × Addr)) (fp : List Addr), PE (X.blk s H scope (compEnvC scope cl C X.env) fp) vx tv) (hs : ∀ x, foldedSetIterable iter X.env x = pure x := by intro _; rfl) :
    PS X (.Assign [.Name y py] (.DictComp kx vx [⟨tg, iter, ifs, 0⟩] scope pos) spos) (tAsg (tDc wi g tt tk tv (own.map (·.2))) (gName i)) := by
  refine ⟨fun pins s σ H D I h => ?_⟩
  rw [exec_Assign_Name_used _ _ _ _ hsw]
  refine wpAny_bind (wpAny_standAt (wpAny_bind ?_))
  show wpAny _ X.A (do let _ ← comprehension (.DictComp kx vx [⟨tg, iter, ifs, 0⟩] scope pos) scope X.env (firstIterPos [⟨tg, iter, ifs, 0⟩] pos) newDict false (eval iter X.env) (some (assign (.Name y py) X.env))) _ _ s
  have h : tDc wi g tt tk tv (own.map (·.2)) σ H (fun x H1 => gName i x σ H1 D.nx) := h
  refine wpAny_bind (thn (dc_core (Qf := fun _ s' => SP X pins D .next s') hc hN I hi ok hg ht hk he hs h fun L C s' m H' I' q hn f => ?_) fun _ s' hq => wpAny_pure (wpAny_pure hq))
  show wpAny _ _ (assign (.Name y py) X.env (.ref L)) _ _ _
  refine wpAny_assign_Name (store_ok2 (v := V.ref L) I' hN hy (.inl hyl) rfl (fun s2 I2 ⟨a, sb, ha⟩ => ?_) (.inr hyl))
  obtain ⟨f0, f1, f2, f3, f4, f5⟩ := f
  have haC : C ≠ a := by
    rcases ha with z | z
    · rw [z]; exact f1
    · exact fun e => f4 y a z e.symm
  refine ⟨m, hn.sameBut sb haC, fun h3 sb3 => ?_⟩
  exact ⟨_, H', I2.turned (t' := s2.toks) (fun b o hb e => (sb3.2 b hb).trans e) f0 f1 f3 f4 f5, q⟩
theorem sw_trueD {kx vx : Expr} {gs : List Comprehension} {scope : Scope} {pos py : Pos} {y : Str} {l : Nat} {env : PySem.Env} (hk : env.scope.kind = .function) (hy : env.scope.names.lookup y = some .local) (hl : (py.line == pos.line) = true)
    (ha : (scope.names.any fun (n, k) => n == y && (k == .local || k == .cell)) = false) : swapsWith (.DictComp kx vx gs scope pos) (some (.Name y py)) l env = pure true := by
  have ky : env.kindOf y = some .local := hy
  have hb : env.blockKind = .function := by unfold PySem.Env.blockKind; rw [hk]; rfl
  unfold swapsWith
  simp only [hb, ky, ha, Expr.pos, hl]
  rfl
end
def dcF (f : D → Res (Option (D × D))) : List D → List (D × D) → Res (List (D × D))
  | [], ac => .ok ac
  | d :: ds, ac => match f d with
    | .ok (some (k, v)) => match keyOf k with
      | some k => dcF f ds (dPut ac k v)
      | none => .bad
    | .ok none => dcF f ds ac
    | _ => .bad
def compD (f : D → Res (Option (D × D))) (ds : List D) : Res (List (D × D)) := if ds.length ≤ sizeLine then dcF f ds [] else .bad
theorem dPut_len (es : List (D × D)) (k : Key) (v : D) : (dPut es k v).length ≤ es.length + 1 := by
  unfold dPut
  split <;> simp
def dcTurn {γ : Type} (mg : D → Res γ) (mt : D → γ → Res Bool) (mk mv : D → γ → Res D) (d : D) : Res (Option (D × D)) :=
  (mg d).bind fun g => (mt d g).bind fun t => if t then (mk d g).bind fun k => (mv d g).map fun v => some (k, v) else .ok none
section
variable {α γ : Type} {X : Cx} {w : Wx} {S Ts : List Sl} {tg iter kx vx elt : Expr} {ifs : List Expr} {scope : Scope} {pos : Pos} {mi : Res α} {Rs : α → List Sl} {ss : α → List Src} {ds : α → List D}
theorem dc_run {Sg : D → γ → List Sl} {mg : D → Res γ} {ks vs : List Nat} {mt : D → γ → Res Bool} {mk mv : D → γ → Res D}
    (hg : ∀ s H c cl fp d, EvG (blkX X scope s H c cl fp) tg (wipeS S vs) d (mg d) (Sg d) ks)
    (ht : ∀ s H c cl fp d g a ac, EvTs (blkX X scope s H c cl fp) (Wno X.N.length) ifs (Sg d g) (Ts ++ [.ow none (.dict ac)] ++ Rs a) (mt d g) (fun _ => Sg d g) id)
    (hk : ∀ s H c cl fp d g a ac, EvE (blkX X scope s H c cl fp) (Wno X.N.length) kx (Sg d g) (Ts ++ [.ow none (.dict ac)] ++ Rs a) (mk d g) (fun _ => Sg d g) .v)
    (he : ∀ s H c cl fp d g a ac k, EvE (blkX X scope s H c cl fp) (Wno X.N.length) vx (Sg d g) (Ts ++ [.ow none (.dict ac)] ++ Rs a ++ [.v k]) (mv d g) (fun _ => Sg d g) .v)
    (hks : ∀ k ∈ ks, k ∈ vs) (nd : vs.Nodup)
    (w1 : ∀ d g, WL (wipeS (Sg d g) vs) (wipeS S vs))
    (hv : ∀ a, pvs (wipeS S vs) (Rs a) (ss a)) (hvs : vs.all (fun v => decide (v < S.length)) = true) (hal : ∀ a, (S ++ (Ts ++ Rs a)).all (fun s => vs.all (noalk · s)) = true) (hal2 : (wipeS S vs).all noal = true)
    (hal3 : ∀ d g, (Sg d g).all noal = true) (hRs : ∀ a, (Rs a).all (alIn S.length) = true)
    {C : EC} {σ : L2.St} {τ : List (Option V)} {H : Hp} {Q : VK} (hK : C.K = X.K) (hτ : τ.length = Ts.length) (hi : EvIC C σ τ H X tg iter Ts mi (fun _ => S) Rs ss ds)
    (hq : ∀ a r, mi = .ok a → compD (dcTurn mg mt mk mv) (ds a) = .ok r → ∀ u F' H', Env C (backS S (wipeS S vs) vs ++ Ts ++ [.ow none (.dict r)]) (σ ++ τ ++ [some u]) F' H' → Q u H')
    (hb : (mi.bind fun a => compD (dcTurn mg mt mk mv) (ds a)) ≠ .bad) :
    tDc (CanI X tg iter) (fun v σ H Q => ∀ s H0 c cl fp, CanG (blkX X scope s H0 c cl fp) tg v σ H Q) (fun σ H Q => ∀ s H0 c cl fp, CanTs (blkX X scope s H0 c cl fp) ifs σ H Q) (fun σ H Q => ∀ s H0 c cl fp, Can (blkX X scope s H0 c cl fp) kx σ H Q) (fun σ H Q => ∀ s H0 c cl fp, Can (blkX X scope s H0 c cl fp) vx σ H Q) vs σ H Q := by
  refine hi _ (fun a ha us F1 H1 J hlu E1 hJ => ?_)
  rw [ok_bind ha] at hb
  have hq := fun r => hq a r ha
  unfold compD at hb hq
  have hz : (ds a).length ≤ sizeLine := by
    by_cases h : (ds a).length ≤ sizeLine
    · exact h
    · rw [if_neg h] at hb; exact absurd rfl hb
  rw [if_pos hz] at hb hq
  have hσ : σ.length = S.length := by have := E1.len; simp at this; omega
  have hlen : (wipeS S vs).length = S.length := wipeS_len S vs
  have hvs' : ∀ v ∈ vs, v < S.length := fun v hv => by simpa using List.all_eq_true.mp hvs v hv
  have hal' : ∀ v ∈ vs, (S ++ (Ts ++ Rs a)).all (noalk v) = true := fun v hv => by
    rw [List.all_eq_true]; intro s hs
    exact List.all_eq_true.mp (List.all_eq_true.mp (hal a) s hs) v hv
  have halT : ∀ ac, ∀ v ∈ vs, (Ts ++ [Sl.ow none (.dict ac)] ++ Rs a).all (noalk v) = true := fun ac v hv => by
    have := hal' v hv
    simp only [List.all_append, Bool.and_eq_true] at this ⊢
    exact ⟨⟨this.2.1, rfl⟩, this.2.2⟩
  have noS : ∀ {M : List Sl} {T : List Sl}, M.all noal = true → (∀ v ∈ vs, T.all (noalk v) = true) → ∀ v ∈ vs, (M ++ T).all (noalk v) = true := fun {M T} hM hT v hv => by
    rw [List.all_append, Bool.and_eq_true]
    exact ⟨by rw [List.all_eq_true] at hM ⊢; exact fun s hs => noal_k v (hM s hs), hT v hv⟩
  intro D hD
  generalize hr : dcF (dcTurn mg mt mk mv) (ds a) [] = r at hq hb
  have E2 := ((Env.wipes (L := S) (T := Ts ++ Rs a) (ρ := σ) (π := τ ++ us.map some) (by simpa only [List.append_assoc] using E1) hσ vs hvs' hal').1)
  have E3 := E2.rebase.pushOw (p := D) (o := .dK []) (d := .dict []) hD ⟨[], rfl, .nil⟩
  have E3' := Env.swapLast (L := wipeS S vs ++ Ts) (M := Rs a) (ρ := wipe σ vs ++ τ) (μ := us.map some) (by simp [wipe_length, hσ, hlen, hτ]) (by simp [hlu]) rfl (fun j hj => by
    have := List.all_eq_true.mp (hRs a) _ hj
    simp [alIn] at this
    rw [List.length_append, hlen]; omega) (by simpa only [List.append_assoc] using E3)
  have hC' : ({ C with F0 := F1 } : EC).K = X.K := hK
  have lτ : ∀ ac, (τ ++ [some (V.ref D)] ++ us.map some).length = (Ts ++ [Sl.ow none (.dict ac)] ++ Rs a).length := fun ac => by simp [hτ, hlu]
  have wipe2 : wipe (wipe σ vs) vs = wipe σ vs := by
    apply List.ext_getElem?
    intro i
    rw [wipe_get, wipe_get, wipe_length]
    split <;> rfl
  refine ⟨fun i n H' => ∃ F' ac, n = (ds a).length - i ∧ i ≤ (ds a).length ∧ ac.length ≤ i ∧ Env { C with F0 := F1 } (wipeS S vs ++ (Ts ++ [.ow none (.dict ac)] ++ Rs a)) (wipe σ vs ++ (τ ++ [some (.ref D)] ++ us.map some)) F' H' ∧ dcF (dcTurn mg mt mk mv) ((ds a).drop i) ac = r, ⟨(ds a).length, F1, [], by simp, Nat.zero_le _, Nat.le_refl _, ?_, hr⟩, ?_⟩
  · simpa only [List.append_assoc] using E3'
  rintro i n H' ⟨F', ac, rfl, hin, hac, E', hd⟩
  have E'' : Env { C with F0 := F1 } (wipeS S vs ++ (Ts ++ [.ow none (.dict ac)]) ++ Rs a) (wipe σ vs ++ (τ ++ [some (.ref D)]) ++ us.map some) F' H' := by simpa only [List.append_assoc] using E'
  obtain ⟨j1, j2⟩ := hJ { C with F0 := F1 } (wipeS S vs) (Ts ++ [.ow none (.dict ac)]) (wipe σ vs ++ (τ ++ [some (.ref D)])) F' H' i hC' rfl rfl E1.gg.1 E'' (hv a)
  by_cases hlt : i < (ds a).length
  · have hdi : (ds a)[i]? = some (ds a)[i] := List.getElem?_eq_getElem hlt
    have hdr : (ds a).drop i = (ds a)[i] :: (ds a).drop (i + 1) := List.drop_eq_getElem_cons hlt
    rw [hdr] at hd
    simp only [dcF] at hd
    obtain ⟨jg, jy⟩ := j1 _ hdi
    generalize (ds a)[i] = d0 at hd jy
    refine .inr ⟨jg, fun H2 => ∃ F2 ac2, ac2.length ≤ i + 1 ∧ Env { C with F0 := F1 } (wipeS S vs ++ (Ts ++ [.ow none (.dict ac2)] ++ Rs a)) (wipe σ vs ++ (τ ++ [some (.ref D)] ++ us.map some)) F2 H2 ∧ dcF (dcTurn mg mt mk mv) ((ds a).drop (i + 1)) ac2 = r, fun H2 ⟨F2, ac2, e1, e2, e3⟩ => ⟨(ds a).length - (i + 1), by omega, F2, ac2, rfl, hlt, e1, e2, e3⟩, fun x H2 hy => ?_⟩
    obtain ⟨F2, E4, rx⟩ := jy x H2 hy
    have E4' : Env { C with F0 := F1 } (wipeS S vs ++ (Ts ++ [.ow none (.dict ac)] ++ Rs a)) (wipe σ vs ++ (τ ++ [some (.ref D)] ++ us.map some)) F2 H2 := by simpa only [List.append_assoc] using E4
    have nb : ∀ {z : Res (Option (G.D × G.D))}, z = .bad ∨ (∃ x, z = .exc x) → dcTurn mg mt mk mv d0 = z → False := fun {z} hz e => by
      rw [e] at hd
      have : r = .bad := by
        rcases hz with rfl | ⟨x, rfl⟩ <;> exact hd.symm
      exact hb this
    intro s0 H0 c0 cl0 fp0
    refine hg s0 H0 c0 cl0 fp0 d0 { C with F0 := F1 } (Ts ++ [.ow none (.dict ac)] ++ Rs a) (wipe σ vs) (τ ++ [some (.ref D)] ++ us.map some) F2 H2 x _ hC' (lτ ac) E4' rx (by
      rw [List.all_eq_true]; intro s hs
      rw [List.all_eq_true]; intro k hk
      exact List.all_eq_true.mp (noS hal2 (halT ac) k (hks k hk)) s hs) (fun g hgo σ3 O3 E5 => ?_) (fun eb => nb (.inl rfl) (by unfold dcTurn; rw [bad_bind eb]))
    have w3 : wipe σ3 vs = wipe σ vs := (wipe_off O3 hks).trans wipe2
    refine ⟨w3, fun s1 H1 c1 cl1 fp1 => ?_⟩
    refine ht s1 H1 c1 cl1 fp1 d0 g a ac { C with F0 := F1 } σ3 (τ ++ [some (.ref D)] ++ us.map some) F2 H2 _ hC' (lτ ac) E5 (fun t hto F3 H3 E6 => ?_) (fun x ex => (nb (.inr ⟨x, rfl⟩) (by unfold dcTurn; rw [ok_bind hgo, exc_bind ex])).elim) (fun eb => nb (.inl rfl) (by unfold dcTurn; rw [ok_bind hgo, bad_bind eb]))
    have hl3 : σ3.length = (Sg d0 g).length := nil_len E6 (lτ ac)
    have hl3' : σ3.length = S.length := by rw [O3.1, wipe_length, hσ]
    cases t with
    | true =>
      refine (if_pos (show (id true : Bool) = true from rfl)).mpr ?_
      intro s2 H2 c2 cl2 fp2
      refine hk s2 H2 c2 cl2 fp2 d0 g a ac { C with F0 := F1 } σ3 (τ ++ [some (.ref D)] ++ us.map some) F3 H3 _ hC' (lτ ac) E6 (fun k hko uk F4 H4 E7 => ?_) (fun x ex => (nb (.inr ⟨x, rfl⟩) (by unfold dcTurn; rw [ok_bind hgo, ok_bind hto, if_pos rfl, exc_bind ex])).elim) (fun eb => nb (.inl rfl) (by unfold dcTurn; rw [ok_bind hgo, ok_bind hto, if_pos rfl, bad_bind eb]))
      intro s3 H3 c3 cl3 fp3
      refine he s3 H3 c3 cl3 fp3 d0 g a ac k { C with F0 := F1 } σ3 (τ ++ [some (.ref D)] ++ us.map some ++ [some uk]) F4 H4 _ hC' (by simp [hτ, hlu]) (by simpa only [List.append_assoc] using E7) (fun v hvo uv F5 H5 E8 => ?_) (fun x ex => (nb (.inr ⟨x, rfl⟩) (by unfold dcTurn; rw [ok_bind hgo, ok_bind hto, if_pos rfl, ok_bind hko, ex]; rfl)).elim) (fun eb => nb (.inl rfl) (by unfold dcTurn; rw [ok_bind hgo, ok_bind hto, if_pos rfl, ok_bind hko, eb]; rfl))
      have turn : dcTurn mg mt mk mv d0 = .ok (some (k, v)) := by unfold dcTurn; rw [ok_bind hgo, ok_bind hto, if_pos rfl, ok_bind hko, hvo]; rfl
      rw [turn] at hd
      have E8' : Env { C with F0 := F1 } (Sg d0 g ++ (Ts ++ [.ow none (.dict ac)] ++ Rs a) ++ [.v k] ++ [.v v]) (σ3 ++ (τ ++ [some (.ref D)] ++ us.map some) ++ [some uk] ++ [some uv]) F5 H5 := by simpa only [List.append_assoc] using E8
      have E6' := E8'.pop.pop
      have hl4 : (Sg d0 g).length = σ3.length := hl3.symm
      have hkk : (Sg d0 g ++ (Ts ++ [Sl.ow none (.dict ac)] ++ Rs a))[(Sg d0 g ++ Ts).length]? = some (.ow none (.dict ac)) := by
        rw [List.append_assoc, ← List.append_assoc, List.getElem?_append_right (Nat.le_refl _), Nat.sub_self]; rfl
      have hkρ : (σ3 ++ (τ ++ [some (V.ref D)] ++ us.map some))[(Sg d0 g ++ Ts).length]? = some (some (.ref D)) := by
        rw [List.append_assoc, ← List.append_assoc, List.getElem?_append_right (by simp [hl4, hτ]), show (Sg d0 g ++ Ts).length - (σ3 ++ τ).length = 0 by simp [hl4, hτ]]; rfl
      obtain ⟨p, o, q1, q2, q3, q4, _⟩ := E6'.ow _ _ _ hkk
      rw [hkρ] at q1; cases q1
      obtain ⟨kvs, rfl, q5⟩ := q4
      obtain ⟨u', q6, q7⟩ := E8'.pop.va _ _ at_last
      rw [← E6'.len, at_last] at q6
      cases q6
      obtain ⟨u', q8, q9⟩ := E8'.va _ _ at_last
      rw [← E8'.pop.len, at_last] at q8
      cases q8
      cases hkey : keyOf k with
      | none => simp only [hkey] at hd; exact absurd hd.symm hb
      | some key =>
        simp only [hkey] at hd
        have ek : uk = kV key := Rn.key (H := H5) (.inl q7) hkey
        refine ⟨kvs, key, ek, q2, by rw [q5.len]; omega, F5, dPut ac key v, Nat.le_trans (dPut_len _ _ _) (by omega), ?_, hd⟩
        have E9 := E6'.write (d' := .dict (dPut ac key v)) hkk hkρ (o' := .dK (putK kvs key uv)) ⟨_, rfl, q5.put q9⟩
        have eset : (Sg d0 g ++ (Ts ++ [Sl.ow none (.dict ac)] ++ Rs a)).set (Sg d0 g ++ Ts).length (.ow none (.dict (dPut ac key v))) = Sg d0 g ++ (Ts ++ [Sl.ow none (.dict (dPut ac key v))] ++ Rs a) := by
          rw [List.append_assoc, ← List.append_assoc, List.set_append_right _ _ (Nat.le_refl _), Nat.sub_self, List.append_assoc]; simp
        rw [eset] at E9
        have E10 := (Env.wipes (L := Sg d0 g) (ρ := σ3) E9 hl3 vs (fun v hv => by have := hvs' v hv; omega) (noS (hal3 d0 g) (halT _))).1
        rw [w3] at E10
        exact E10.wk (wl_pre (w1 d0 g))
    | false =>
      refine (if_neg (show ¬ (id false : Bool) = true by decide)).mpr ?_
      have turn : dcTurn mg mt mk mv d0 = .ok none := by unfold dcTurn; rw [ok_bind hgo, ok_bind hto, if_neg (by decide)]
      rw [turn] at hd
      refine ⟨F3, ac, by omega, ?_, hd⟩
      have E9 := (Env.wipes (L := Sg d0 g) (ρ := σ3) E6 hl3 vs (fun v hv => by have := hvs' v hv; omega) (noS (hal3 d0 g) (halT _))).1
      rw [w3] at E9
      exact E9.wk (wl_pre (w1 d0 g))
  · have e0 : i = (ds a).length := by omega
    subst e0
    rw [List.drop_length] at hd
    simp only [dcF] at hd
    subst hd
    refine .inl ⟨j2 (Nat.le_refl _), ?_⟩
    have E4 : Env { C with F0 := F1 } (wipeS S vs ++ (Ts ++ [.ow none (.dict ac)])) (wipe σ vs ++ (τ ++ [some (.ref D)])) F' H' := Env.pre (by simp [hlu]) E''
    have E5 := Env.backs (C := { C with F0 := F1 }) (SE := wipeS S vs) (T := Ts ++ [.ow none (.dict ac)]) (π := τ ++ [some (.ref D)]) (C0 := C) (S := S) (T0 := Ts ++ Rs a) (σ := σ) (τ0 := τ ++ us.map some) (F0 := F1) (H0 := H1) (by simpa only [List.append_assoc] using E1) hσ E4.gg.1 rfl hlen vs nd (fun v hv => ⟨hvs' v hv, ?_⟩) E4
    · refine hq ac rfl (.ref D) F' H' ?_
      have := Env.unbase E1 E5
      simpa only [List.append_assoc] using this
    · refine noS hal2 (fun v hv => ?_) v hv
      have h1 := halT ac v hv
      rw [List.all_append, Bool.and_eq_true] at h1
      exact h1.1
end
end G
namespace G
open PySem L2
section
variable {α γ : Type} {X : Cx} {w : Wx} {S Ts : List Sl} {tg iter kx vx elt e : Expr} {ifs : List Expr} {scope : Scope} {pos : Pos} {mi : Res α} {Rs : α → List Sl} {ss : α → List Src} {ds : α → List D}
theorem ets_nilB : EvTs X w [] S Ts (.ok true) (fun _ => S) id := fun C σ τ F H Q hK hτ E hq _ _ => ⟨_, pts_nil, hq true rfl F H E⟩
def gU (X : Cx) (scope : Scope) (tg : Expr) : TG := fun v σ H Q => ∀ s H0 c cl fp, CanG (blkX X scope s H0 c cl fp) tg v σ H Q
def tsU (X : Cx) (scope : Scope) (ifs : List Expr) : TT := fun σ H Q => ∀ s H0 c cl fp, CanTs (blkX X scope s H0 c cl fp) ifs σ H Q
def eU (X : Cx) (scope : Scope) (e : Expr) : TE := fun σ H Q => ∀ s H0 c cl fp, Can (blkX X scope s H0 c cl fp) e σ H Q
theorem pgU : ∀ (s : Shared) (H : Hp) (C : Addr) (cl : List (Str × Addr)) (fp : List Addr), PG (X.blk s H scope (compEnvC scope cl C X.env) fp) tg (gU X scope tg) := fun s0 H0 c cl fp => ⟨fun pins s σ H v u Q I r q => canG.run pins s σ H v u Q I r (q s0 H0 c cl fp)⟩
theorem ptU : ∀ (s : Shared) (H : Hp) (C : Addr) (cl : List (Str × Addr)) (fp : List Addr), PTs (X.blk s H scope (compEnvC scope cl C X.env) fp) ifs (tsU X scope ifs) := fun s0 H0 c cl fp => ⟨fun pins s σ H Q I q => canTs.run pins s σ H Q I (q s0 H0 c cl fp)⟩
theorem peU : ∀ (s : Shared) (H : Hp) (C : Addr) (cl : List (Str × Addr)) (fp : List Addr), PE (X.blk s H scope (compEnvC scope cl C X.env) fp) e (eU X scope e) := fun s0 H0 c cl fp => ⟨fun pins s σ H Q I q => can.run pins s σ H Q I (q s0 H0 c cl fp)⟩
/-- a dict's walk: locked, if it is not -/
def orLk (t : TE) : TE := fun σ H Q => t σ H Q ∨ tLockE t σ H Q
theorem pe_orLk {t : TE} (h : PE X e t) : PE X e (orLk t) := ⟨fun pins s σ H Q I q => by
  rcases q with q | q
  · exact h.run pins s σ H Q I q
  · exact (pe_lock h).run pins s σ H Q I q⟩
theorem ps_orLk {t : TE} {st : Stmt} {i : Nat} (h : PS X st (tAsg t (gName i))) : PS X st (tAsg (orLk t) (gName i)) := ⟨fun pins s σ H D I q => by
  rcases (show t σ H (fun x H1 => gName i x σ H1 D.nx) ∨ tLockE t σ H (fun x H1 => gName i x σ H1 D.nx) from q) with q | ⟨d, u, h1, h2, q⟩
  · exact h.run pins s σ H D I q
  · exact (ps_lock h).run pins s σ H D I ⟨d, u, h1, h2, fun od => q od⟩⟩
/-- from a core that any walk serves -/
theorem ek_lk {β : Type} {t : TE} {m : Res β} {S' : β → List Sl} {R : β → Sl} {f : List (D × D) → List D} {s : Sl} {es : List (D × D)} (i : Nat)
    (core : ∀ (C : EC) (σ : L2.St) (τ : List (Option V)) (H : Hp) (Q : VK), C.K = X.K → τ.length = Ts.length → EvIC C σ τ H X tg iter Ts (Res.ok ()) (fun _ => S) (fun _ => []) (fun _ => []) (fun _ => f es) → (∀ r, m = .ok r → ∀ u F' H', Env C (S' r ++ Ts ++ [R r]) (σ ++ τ ++ [some u]) F' H' → Q u H') → m ≠ .bad → t σ H Q)
    (pe : PE X e t) (ps : ∀ {i : Nat} {y : Str} {py spos : Pos}, X.N[i]? = some y → X.env.scope.names.lookup y = some .local → swapsWith e (some (.Name y py)) spos.line X.env = pure true → PS X (.Assign [.Name y py] e spos) (tAsg t (gName i)))
    (lk : LkI X tg iter i f) (hs0 : S[i]? = some s) (hds : dsl s = some es) : EvK X w e S Ts m S' R := by
  refine ⟨orLk t, ?_, pe_orLk pe, fun {i y py spos} a b c => ps_orLk (ps a b c)⟩
  intro C σ τ F H Q hK hτ E hq hx hb
  have hi := lt_of_get hs0
  have hσl := nil_len E hτ
  obtain ⟨p, kvs, o0, od0, a1, a2, a3, a4, a5⟩ := E.dslot (i := i) (by rw [at_left hi]; exact hs0) hds
  have a1' : σ[i]? = some (some (.ref p)) := by rwa [at_left (by omega)] at a1
  have core' : ∀ (od : Obj) (ho : o0 = .dK kvs ∨ o0 = .frz od (.dK kvs)) (Q1 : VK), (∀ v H', H' p = some (.frz od (.dK kvs)) → Q v (upd H' p o0) → Q1 v H') → t σ (upd H p (.frz od (.dK kvs))) Q1 := fun od ho Q1 h1 => by
    have E1 := E.locked (p := p) (od := od) a2 ho a5
    refine core (C.lk F p (.frz od (.dK kvs))) σ τ _ Q1 hK hτ (lk (C.lk F p (.frz od (.dK kvs))) σ τ S Ts F _ p od kvs es hK E1 a1' upd_same (fun m => by simpa using (List.mem_filter.mp m).2) a4) (fun r hr u F' H' E2 => h1 u H' E2.lk_at ?_) hb
    exact hq r hr u F' _ (E.unlocked a2 ho E2)
  rcases a3 with rfl | rfl
  · exact .inr ⟨p, .dK kvs, a2, trivial, fun od => core' od (.inl rfl) _ fun v H' e q => ⟨e, q⟩⟩
  · have eH : ∀ {G : Hp}, G p = some (.frz od0 (.dK kvs)) → upd G p (.frz od0 (.dK kvs)) = G := fun {G} e => by
      funext b
      by_cases hb : b = p
      · subst hb; rw [upd_same]; exact e.symm
      · rw [upd_ne hb]
    have := core' od0 (.inr rfl) Q (fun v H' e q => by rw [eH e] at q; exact q)
    rw [eH a2] at this
    exact .inl this
/-- what a pure block asks -/
structure BlkP (X : Cx) (scope : Scope) (S Ts : List Sl) (own : List (Str × Nat)) (ks : List Nat) (Sg : D → γ → List Sl) : Prop where
  ok : blkC X.N X.env.scope scope own = true
  hks : ks.all (fun k => decide (k ∈ own.map (·.2))) = true
  nd : (own.map (·.2)).Nodup
  w1 : ∀ d g, WL (wipeS (Sg d g) (own.map (·.2))) (wipeS S (own.map (·.2)))
  hvs : (own.map (·.2)).all (fun v => decide (v < S.length)) = true
  hal : (S ++ Ts).all (fun s => (own.map (·.2)).all (noalk · s)) = true
  hal2 : (wipeS S (own.map (·.2))).all noal = true
  hal3 : ∀ d g, (Sg d g).all noal = true
theorem lc_coreO {Sg : D → γ → List Sl} {mg : D → Res γ} {ks : List Nat} {mt : D → γ → Res Bool} {me : D → γ → Res D} {own : List (Str × Nat)} (B : BlkP X scope S Ts own ks Sg)
    (hg : ∀ s H c cl fp d, EvG (blkX X scope s H c cl fp) tg (wipeS S (own.map (·.2))) d (mg d) (Sg d) ks)
    (ht : ∀ s H c cl fp d g a ac, EvTs (blkX X scope s H c cl fp) (Wno X.N.length) ifs (Sg d g) (Ts ++ [.ow none (.list ac)] ++ Rs a) (mt d g) (fun _ => Sg d g) id)
    (he : ∀ s H c cl fp d g a ac, EvE (blkX X scope s H c cl fp) (Wno X.N.length) elt (Sg d g) (Ts ++ [.ow none (.list ac)] ++ Rs a) (me d g) (fun _ => Sg d g) .v)
    (hv : ∀ a, pvs (wipeS S (own.map (·.2))) (Rs a) (ss a)) (hal : ∀ a, (Rs a).all (fun s => (own.map (·.2)).all (noalk · s)) = true) (hRs : ∀ a, (Rs a).all (alIn S.length) = true)
    {C : EC} {σ : L2.St} {τ : List (Option V)} {H : Hp} {Q : VK} (hK : C.K = X.K) (hτ : τ.length = Ts.length) (hi : EvIC C σ τ H X tg iter Ts mi (fun _ => S) Rs ss ds)
    (hq : ∀ a r, mi = .ok a → compO (fun d => (mg d).bind fun g => iffO (mt d g) (me d g)) (ds a) = .ok r → ∀ u F' H', Env C (backS S (wipeS S (own.map (·.2))) (own.map (·.2)) ++ Ts ++ [.ow none (.list r)]) (σ ++ τ ++ [some u]) F' H' → Q u H')
    (hb : (mi.bind fun a => compO (fun d => (mg d).bind fun g => iffO (mt d g) (me d g)) (ds a)) ≠ .bad) :
    tLc (CanI X tg iter) (gU X scope tg) (tsU X scope ifs) (eU X scope elt) (own.map (·.2)) σ H Q := by
  have key : ∀ a, (if (ds a).length ≤ sizeLine then lcF (lcTurn (fun _ d => mg d) (fun _ d g => mt d g) id (fun _ d g _ => me d g) (fun _ _ _ _ => ()) (fun _ _ _ _ _ => ()) id) (ds a) () else .bad) = (compO (fun d => (mg d).bind fun g => iffO (mt d g) (me d g)) (ds a)).map fun r => ((), r) := fun a => by
    unfold compO
    split
    · rw [lcF_P (g := fun d => (mg d).bind fun g => iffO (mt d g) (me d g))]
      intro d
      show ((mg d).bind fun g => (mt d g).bind fun t => if t = true then (me d g).bind fun e => .ok ((), some e) else .ok ((), none)) = Res.map (fun o => ((), o)) ((mg d).bind fun g => (mt d g).bind fun t => if t = true then (me d g).map some else .ok none)
      cases mg d with
      | ok g =>
        simp only [Res.bind_ok]
        cases mt d g with
        | ok t =>
          cases t
          · rfl
          · simp only [Res.bind_ok, if_true]
            cases me d g <;> rfl
        | exc x => rfl
        | bad => rfl
      | exc x => rfl
      | bad => rfl
    · rfl
  refine lc_run (β := Unit) (SJ := fun _ => wipeS S (own.map (·.2))) (mg := fun _ d => mg d) (mt := fun _ d g => mt d g) (bt := id) (me := fun _ d g _ => me d g) (Sg := fun _ d g => Sg d g) (S2 := fun _ d g _ => Sg d g) (Se := fun _ d g _ _ => Sg d g) (y := id) (fun _ => ()) (fun _ _ _ _ => ()) (fun _ _ _ _ _ => ()) (fun _ => WL.refl _) (fun s H c cl fp _ d => hg s H c cl fp d) (fun s H c cl fp _ d g a ac => ht s H c cl fp d g a ac) (fun s H c cl fp _ d g _ a ac => he s H c cl fp d g a ac) (fun k hk => by simpa using List.all_eq_true.mp B.hks k hk) B.nd (fun _ d g _ => B.w1 d g) (fun _ d g _ _ => B.w1 d g) (fun a _ => hv a) (fun _ _ => wipeS_len _ _) (fun _ => B.hvs) (fun a => ?_) (fun _ => B.hal2) (fun _ d g _ => B.hal3 d g) (fun _ d g _ _ => B.hal3 d g) hRs hK hτ hi (fun a r ha hr u F' H' E' => ?_) ?_
  · have h1 := B.hal
    have h2 := hal a
    rw [List.all_append, Bool.and_eq_true] at h1
    rw [List.all_append, List.all_append, h1.1, h1.2, h2]; rfl
  · rw [key a] at hr
    cases hc : compO (fun d => (mg d).bind fun g => iffO (mt d g) (me d g)) (ds a) with
    | ok r' => rw [hc] at hr; cases hr; exact hq a r' ha hc u F' H' E'
    | exc x => rw [hc] at hr; cases hr
    | bad => rw [hc] at hr; cases hr
  · intro e
    apply hb
    cases hm : mi with
    | ok a =>
      rw [hm] at e
      simp only [Res.bind_ok, key a] at e ⊢
      cases hc : compO (fun d => (mg d).bind fun g => iffO (mt d g) (me d g)) (ds a) with
      | ok r' => rw [hc] at e; cases e
      | exc x => rw [hc] at e; cases e
      | bad => rfl
    | exc x => rw [hm] at e; cases e
    | bad => rfl
/-- [e for t in d.items() if ..] -/
theorem ek_compOL {Sg : D → γ → List Sl} {mg : D → Res γ} {ks : List Nat} {mt : D → γ → Res Bool} {me : D → γ → Res D} {f : List (D × D) → List D} {s : Sl} {es : List (D × D)} (i : Nat) (own : List (Str × Nat)) (hc : X.calm = true) (hN : X.N.Nodup) (lk : LkI X tg iter i f)
    (hg : ∀ s H c cl fp d, EvG (blkX X scope s H c cl fp) tg (wipeS S (own.map (·.2))) d (mg d) (Sg d) ks)
    (ht : ∀ s H c cl fp d g ac, EvTs (blkX X scope s H c cl fp) (Wno X.N.length) ifs (Sg d g) (Ts ++ [.ow none (.list ac)]) (mt d g) (fun _ => Sg d g) id)
    (he : ∀ s H c cl fp d g ac, EvE (blkX X scope s H c cl fp) (Wno X.N.length) elt (Sg d g) (Ts ++ [.ow none (.list ac)]) (me d g) (fun _ => Sg d g) .v)
    (B : BlkP X scope S Ts own ks Sg := by exact ⟨by rfl, by rfl, by decide, by intros; exact WL.refl _, by rfl, by rfl, by rfl, by intros; rfl⟩) (hs0 : S[i]? = some s := by rfl) (hds : dsl s = some es := by rfl)
    (hs : ∀ x, foldedSetIterable iter X.env x = pure x := by intro _; rfl) :
    EvK X w (.ListComp elt [⟨tg, iter, ifs, 0⟩] scope pos) S Ts (compO (fun d => (mg d).bind fun g => iffO (mt d g) (me d g)) (f es)) (fun _ => backS S (wipeS S (own.map (·.2))) (own.map (·.2))) (fun r => .ow none (.list r)) :=
  ek_lk (tg := tg) (iter := iter) (f := f) (es := es) i (fun C σ τ H Q hK hτ hi hq hb => lc_coreO (mi := Res.ok ()) (Rs := fun _ => []) (ss := fun _ => []) (ds := fun _ => f es) B hg (fun s H c cl fp d g _ ac => by simpa using ht s H c cl fp d g ac) (fun s H c cl fp d g _ ac => by simpa using he s H c cl fp d g ac) (fun _ => trivial) (fun _ => rfl) (fun _ => rfl) hK hτ hi (fun _ r _ hr => hq r hr) hb)
    (pe_lc hc hN canI (blkOk_by B.ok) pgU ptU peU hs) (fun a b c => ps_setLc hc hN a b c canI (blkOk_by B.ok) pgU ptU peU hs) lk hs0 hds
/-- {k: v for ..}, over a dict -/
theorem ek_dcompL {Sg : D → γ → List Sl} {mg : D → Res γ} {ks : List Nat} {mt : D → γ → Res Bool} {mk mv : D → γ → Res D} {f : List (D × D) → List D} {s : Sl} {es : List (D × D)} (i : Nat) (own : List (Str × Nat)) (hc : X.calm = true) (hN : X.N.Nodup) (lk : LkI X tg iter i f)
    (hg : ∀ s H c cl fp d, EvG (blkX X scope s H c cl fp) tg (wipeS S (own.map (·.2))) d (mg d) (Sg d) ks)
    (ht : ∀ s H c cl fp d g ac, EvTs (blkX X scope s H c cl fp) (Wno X.N.length) ifs (Sg d g) (Ts ++ [.ow none (.dict ac)]) (mt d g) (fun _ => Sg d g) id)
    (hk : ∀ s H c cl fp d g ac, EvE (blkX X scope s H c cl fp) (Wno X.N.length) kx (Sg d g) (Ts ++ [.ow none (.dict ac)]) (mk d g) (fun _ => Sg d g) .v)
    (he : ∀ s H c cl fp d g ac k, EvE (blkX X scope s H c cl fp) (Wno X.N.length) vx (Sg d g) (Ts ++ [.ow none (.dict ac)] ++ [.v k]) (mv d g) (fun _ => Sg d g) .v)
    (B : BlkP X scope S Ts own ks Sg := by exact ⟨by rfl, by rfl, by decide, by intros; exact WL.refl _, by rfl, by rfl, by rfl, by intros; rfl⟩) (hs0 : S[i]? = some s := by rfl) (hds : dsl s = some es := by rfl)
    (hs : ∀ x, foldedSetIterable iter X.env x = pure x := by intro _; rfl) :
    EvK X w (.DictComp kx vx [⟨tg, iter, ifs, 0⟩] scope pos) S Ts (compD (dcTurn mg mt mk mv) (f es)) (fun _ => backS S (wipeS S (own.map (·.2))) (own.map (·.2))) (fun r => .ow none (.dict r)) :=
  ek_lk (tg := tg) (iter := iter) (f := f) (es := es) i (fun C σ τ H Q hK hτ hi hq hb => dc_run (mi := Res.ok ()) (Rs := fun _ => []) (ss := fun _ => []) (ds := fun _ => f es) hg (fun s H c cl fp d g _ ac => by simpa using ht s H c cl fp d g ac) (fun s H c cl fp d g _ ac => by simpa using hk s H c cl fp d g ac) (fun s H c cl fp d g _ ac k => by simpa using he s H c cl fp d g ac k) (fun k hk => by simpa using List.all_eq_true.mp B.hks k hk) B.nd B.w1 (fun _ => trivial) B.hvs (fun _ => by simpa using B.hal) B.hal2 B.hal3 (fun _ => rfl) hK hτ hi (fun _ r _ hr => hq r hr) hb)
    (pe_dc hc hN canI (blkOk_by B.ok) pgU ptU peU peU hs) (fun a b c => ps_setDc hc hN a b c canI (blkOk_by B.ok) pgU ptU peU peU hs) lk hs0 hds
/-- .. over what EvI serves -/
theorem ek_dcomp {Sg : D → γ → List Sl} {mg : D → Res γ} {ks : List Nat} {mt : D → γ → Res Bool} {mk mv : D → γ → Res D} (own : List (Str × Nat)) (hc : X.calm = true) (hN : X.N.Nodup)
    (hi : EvI X w tg iter S Ts mi (fun _ => S) Rs ss ds)
    (hg : ∀ s H c cl fp d, EvG (blkX X scope s H c cl fp) tg (wipeS S (own.map (·.2))) d (mg d) (Sg d) ks)
    (ht : ∀ s H c cl fp d g a ac, EvTs (blkX X scope s H c cl fp) (Wno X.N.length) ifs (Sg d g) (Ts ++ [.ow none (.dict ac)] ++ Rs a) (mt d g) (fun _ => Sg d g) id)
    (hk : ∀ s H c cl fp d g a ac, EvE (blkX X scope s H c cl fp) (Wno X.N.length) kx (Sg d g) (Ts ++ [.ow none (.dict ac)] ++ Rs a) (mk d g) (fun _ => Sg d g) .v)
    (he : ∀ s H c cl fp d g a ac k, EvE (blkX X scope s H c cl fp) (Wno X.N.length) vx (Sg d g) (Ts ++ [.ow none (.dict ac)] ++ Rs a ++ [.v k]) (mv d g) (fun _ => Sg d g) .v)
    (B : BlkP X scope S Ts own ks Sg := by exact ⟨by rfl, by rfl, by decide, by intros; exact WL.refl _, by rfl, by rfl, by rfl, by intros; rfl⟩)
    (hv : ∀ a, pvs (wipeS S (own.map (·.2))) (Rs a) (ss a) := by intros; repeat' (first | trivial | rfl | constructor)) (hal : ∀ a, (Rs a).all (fun s => (own.map (·.2)).all (noalk · s)) = true := by intros; rfl) (hRs : ∀ a, (Rs a).all (alIn S.length) = true := by intros; rfl)
    (hs : ∀ x, foldedSetIterable iter X.env x = pure x := by intro _; rfl) :
    EvK X w (.DictComp kx vx [⟨tg, iter, ifs, 0⟩] scope pos) S Ts (mi.bind fun a => compD (dcTurn mg mt mk mv) (ds a)) (fun _ => backS S (wipeS S (own.map (·.2))) (own.map (·.2))) (fun r => .ow none (.dict r)) := by
  refine ⟨_, ?_, pe_dc hc hN canI (blkOk_by B.ok) pgU ptU peU peU hs, fun {i y py spos} a b c => ps_setDc hc hN a b c canI (blkOk_by B.ok) pgU ptU peU peU hs⟩
  intro C σ τ F H Q hK hτ E hq hx hb
  refine dc_run hg ht hk he (fun k hk => by simpa using List.all_eq_true.mp B.hks k hk) B.nd B.w1 hv B.hvs (fun a => ?_) B.hal2 B.hal3 hRs hK hτ (fun Q hQ => hi C σ τ F H Q hK hτ E (fun a ha us F' H' J hl E' hJ => hQ a ha us F' H' J hl E' hJ.c) (fun x ex => hx x (exc_bind ex)) (fun eb => hb (bad_bind eb))) (fun a r ha hr u F' H' E' => hq r (by rw [ok_bind ha]; exact hr) u F' H' E') hb
  have h1 := B.hal
  have h2 := hal a
  rw [List.all_append, Bool.and_eq_true] at h1
  rw [List.all_append, List.all_append, h1.1, h1.2, h2]; rfl
end
end G
namespace G
open PySem L2 PySem.Spec PyProof.Rows
section
variable {α β γ δ Ω : Type} {X : Cx} {w : Wx} {S Ts : List Sl} {e e1 e2 e3 : Expr} {m m1 : Res α} {S1 : α → List Sl} {R1 : α → Sl} {m2 : α → Res β} {S2 : α → β → List Sl} {R2 : α → β → Sl} {rest : List Stmt} {KO : Ω → Out} {x : Str} {p px pos spos : Pos}
/-! ### isinstance -/
def tyD : D → Option String
  | .non => some "NoneType"
  | .bl _ => some "bool"
  | .int _ => some "int"
  | .str _ => some "str"
  | .list _ => some "list"
  | .tup _ => some "tuple"
  | .dict _ => some "dict"
  | .raw _ => none
theorem Rn.ty {F H : Hp} {u : V} {d : D} {t : String} (hs : Le F H) (h : Rn X.K F H u d) (ht : tyD d = some t) : TyX X.K H u (.type t) := by
  cases d <;> cases ht
  · cases h.non; exact .base .non
  · cases h.bl; exact .base (.bl _)
  · cases h.int; exact .base (.int _)
  · cases h.str; exact .base (.str _)
  · obtain ⟨p, xs, rfl, a, b⟩ := h.list hs
    rcases a with a | ⟨o, a⟩
    · exact .base (.lst a)
    · exact .base (.frz a)
  · obtain ⟨p, xs, rfl, a, b⟩ := h.tup hs
    rcases a with (a | ⟨o, a⟩) | ⟨o, its, n, a1, a2, _⟩
    · exact .base (.tup a)
    · exact .fTuple a
    · exact .kTuple a1 a2
  · obtain ⟨p, kvs, rfl, a, b⟩ := h.dict hs
    rcases a with a | ⟨o, a⟩
    · exact .base (.dK a)
    · exact .fDict a
def subT (a b : String) : Bool := a == b || (a == "bool" && b == "int")
def isiD (d : D) (T : String) : Res Bool := match tyD d with
  | some t => .ok (subT t T)
  | none => .bad
theorem isiD_ne {d : D} {T : String} {z : Exn} (h : isiD d T = .exc z) : False := by unfold isiD at h; split at h <;> cases h
theorem kitB_ok {d : D} {t : String} (h : tyD d = some t) {T : String} (hT : T = "int" ∨ T = "str" ∨ T = "bool" ∨ T = "list" ∨ T = "tuple" ∨ T = "dict") : kitB t T = some (subT t T) := by
  have : t = "NoneType" ∨ t = "bool" ∨ t = "int" ∨ t = "str" ∨ t = "list" ∨ t = "tuple" ∨ t = "dict" := by cases d <;> cases h <;> simp
  rcases this with rfl | rfl | rfl | rfl | rfl | rfl | rfl <;> rcases hT with rfl | rfl | rfl | rfl | rfl | rfl <;> decide +kernel
theorem ev_isi {y : Str} {py : Pos} {T : String} {m1 : Res α} {R1 : α → Sl} {d1 : α → D} (hm : X.mg "isinstance" = none) (hmT : X.mg y = none) (h1 : EvE X w e1 S Ts m1 (fun _ => S) R1) (hT : T = "int" ∨ T = "str" ∨ T = "bool" ∨ T = "list" ∨ T = "tuple" ∨ T = "dict" := by simp) (hv : bootBuiltins y = some (.type T) := by decide +kernel) (v1 : ∀ a, vw S (R1 a) = some (d1 a) := by intros; rfl) (hg : Gl X "isinstance" := by rfl) (hgT : Gl X y := by rfl) (hnT : y ≠ "__name__" := by decide) (hdbT : (y == ("__debug__" : Str)) = false := by decide)
    (hs : starEach [e1, .Name y py] X.env = (false, eval e1 X.env) :: starEach [.Name y py] X.env := by rfl) (hs2 : starEach [.Name y py] X.env = (false, eval (.Name y py) X.env) :: starEach [] X.env := by rfl) (hpl : (backTo pos (starEach [.Name y py] X.env)).any (·.1) = false := by rfl) :
    EvE X w (.Call (.Name "isinstance" p) [e1, .Name y py] [] pos) S Ts (m1.bind fun a => isiD (d1 a) T) (fun _ => S) (fun b => .v (.bl b)) := by
  intro C σ τ F H Q hK hτ E hq hx hb
  refine ⟨_, pe_callB call_isi hg hm PyProof.Rows.boot_isinstance (pa_cons can (pa_cons (pe_bltn (v := .ty T) hgT hmT hv rfl hnT hdbT) pa_nil hs2) hs) (by decide) (by decide) hs hpl, ?_⟩
  refine h1 C σ τ F H _ hK hτ E (fun a ha u F1 H1 E1 => ?_) (fun x ex => hx x (exc_bind ex)) (fun eb => hb (bad_bind eb))
  rw [ok_bind ha] at hq hb
  have r := E1.last (v1 a)
  rw [hK] at r
  cases ht : tyD (d1 a) with
  | none => unfold isiD at hb; rw [ht] at hb; exact absurd rfl hb
  | some t =>
    refine ⟨u, .ty T, .type t, .type T, subT t T, rfl, .ty T, r.ty E1.sub ht, kit_ty (kitB_ok ht hT), ?_⟩
    refine hq (subT t T) (by unfold isiD; rw [ht]) _ F1 H1 (E1.pop.pushV (.bl _))
/-! ### calls that make a list -/
theorem ev_n1 {id : String} {op : List D → Res (List D)} {S1 : α → List Sl} (S' : γ → List Sl) (R : γ → Sl) (pk : α → List D → γ) (d1 : α → D) (hop : ∀ {ds es : List D} {F H : Hp} {us : List V}, Le F H → op ds = .ok es → RnL X.K F H us ds → ∀ Q : VK, (∀ p xs, H p = none → RpL X.K F xs es → Q (.ref p) (upd H p (.lst xs))) → rC X (.builtin id) us H Q) (hne : ∀ {ds : List D} {x : Exn}, op ds = .exc x → False)
    (hm : X.mg x = none) (h1 : EvE X w e1 S Ts m S1 R1) (hv : bootBuiltins x = some (.builtin id) := by decide +kernel) (v1 : ∀ a, vw (S1 a) (R1 a) = some (d1 a) := by intros; rfl) (hS : ∀ a d, S' (pk a d) = S1 a := by intros; rfl) (hR : ∀ a d, R (pk a d) = .ow none (.list d) := by intros; rfl) (hg : Gl X x := by rfl) (hn : x ≠ "__name__" := by decide) (hdb : (x == ("__debug__" : Str)) = false := by decide)
    (hs : starEach [e1] X.env = [(false, eval e1 X.env)] := by rfl) (hpl : (backTo pos (starEach [] X.env)).any (·.1) = false := by rfl) :
    EvE X w (.Call (.Name x p) [e1] [] pos) S Ts (m.bind fun a => (op [d1 a]).bind fun d => .ok (pk a d)) S' R :=
  ev_cN (f := .builtin id) pk (fun a => [d1 a]) (fun {ta} ha => pe_callB callU hg hm hv ha hn hdb hs hpl) hop hne (ea_one h1 hs) (fun a => .cons (v1 a) .nil) hS hR
theorem ev_tn1 {T : String} {op : List D → Res (List D)} {S1 : α → List Sl} (S' : γ → List Sl) (R : γ → Sl) (pk : α → List D → γ) (d1 : α → D) (hop : ∀ {ds es : List D} {F H : Hp} {us : List V}, Le F H → op ds = .ok es → RnL X.K F H us ds → ∀ Q : VK, (∀ p xs, H p = none → RpL X.K F xs es → Q (.ref p) (upd H p (.lst xs))) → rC X (.type T) us H Q) (hne : ∀ {ds : List D} {x : Exn}, op ds = .exc x → False)
    (hm : X.mg x = none) (h1 : EvE X w e1 S Ts m S1 R1) (hv : bootBuiltins x = some (.type T) := by decide +kernel) (v1 : ∀ a, vw (S1 a) (R1 a) = some (d1 a) := by intros; rfl) (hS : ∀ a d, S' (pk a d) = S1 a := by intros; rfl) (hR : ∀ a d, R (pk a d) = .ow none (.list d) := by intros; rfl) (hg : Gl X x := by rfl) (hn : x ≠ "__name__" := by decide) (hdb : (x == ("__debug__" : Str)) = false := by decide)
    (hs : starEach [e1] X.env = [(false, eval e1 X.env)] := by rfl) (hpl : (backTo pos (starEach [] X.env)).any (·.1) = false := by rfl) :
    EvE X w (.Call (.Name x p) [e1] [] pos) S Ts (m.bind fun a => (op [d1 a]).bind fun d => .ok (pk a d)) S' R :=
  ev_cN (f := .type T) pk (fun a => [d1 a]) (fun {ta} ha => pe_callTy callU hg hm hv ha hn hdb hs hpl) hop hne (ea_one h1 hs) (fun a => .cons (v1 a) .nil) hS hR
/-! ### calls with effects in the arguments -/
theorem ev_f1G {id : String} {op : List D → Res D} {S1 : α → List Sl} (S' : γ → List Sl) (R : γ → Sl) (pk : α → D → γ) (d1 : α → D) (hop : ∀ {ds : List D} {d : D} {F H : Hp} {us : List V}, Le F H → op ds = .ok d → RnL X.K F H us ds → ∃ z, Rp X.K F z d ∧ ∀ Q : VK, Q z H → rC X (.builtin id) us H Q) (hne : ∀ {ds : List D} {x : Exn}, op ds = .exc x → False)
    (hm : X.mg x = none) (h1 : EvE X w e1 S Ts m S1 R1) (hv : bootBuiltins x = some (.builtin id) := by decide +kernel) (v1 : ∀ a, vw (S1 a) (R1 a) = some (d1 a) := by intros; rfl) (hS : ∀ a d, S' (pk a d) = S1 a := by intros; rfl) (hR : ∀ a d, R (pk a d) = .v d := by intros; rfl) (hg : Gl X x := by rfl) (hn : x ≠ "__name__" := by decide) (hdb : (x == ("__debug__" : Str)) = false := by decide)
    (hs : starEach [e1] X.env = [(false, eval e1 X.env)] := by rfl) (hpl : (backTo pos (starEach [] X.env)).any (·.1) = false := by rfl) :
    EvE X w (.Call (.Name x p) [e1] [] pos) S Ts (m.bind fun a => (op [d1 a]).bind fun d => .ok (pk a d)) S' R :=
  ev_cS (f := .builtin id) pk (fun a => [d1 a]) (fun {ta} ha => pe_callB callU hg hm hv ha hn hdb hs hpl) hop hne (ea_one h1 hs) (fun a => .cons (v1 a) .nil) hS hR
theorem ev_f2G {id : String} {op : List D → Res D} (S' : γ → List Sl) (R : γ → Sl) (pk : α → β → D → γ) (d1 d2 : α → β → D) (hop : ∀ {ds : List D} {d : D} {F H : Hp} {us : List V}, Le F H → op ds = .ok d → RnL X.K F H us ds → ∃ z, Rp X.K F z d ∧ ∀ Q : VK, Q z H → rC X (.builtin id) us H Q) (hne : ∀ {ds : List D} {x : Exn}, op ds = .exc x → False)
    (hm : X.mg x = none) (h1 : EvE X w e1 S Ts m1 S1 R1) (h2 : ∀ a, EvE X w e2 (S1 a) (Ts ++ [R1 a]) (m2 a) (S2 a) (R2 a)) (hv : bootBuiltins x = some (.builtin id) := by decide +kernel) (v1 : ∀ a b, vw (S2 a b) (R1 a) = some (d1 a b) := by intros; rfl) (v2 : ∀ a b, vw (S2 a b) (R2 a b) = some (d2 a b) := by intros; rfl)
    (hS : ∀ a b d, S' (pk a b d) = S2 a b := by intros; rfl) (hR : ∀ a b d, R (pk a b d) = .v d := by intros; rfl) (hg : Gl X x := by rfl) (hn : x ≠ "__name__" := by decide) (hdb : (x == ("__debug__" : Str)) = false := by decide)
    (hs : starEach [e1, e2] X.env = (false, eval e1 X.env) :: starEach [e2] X.env := by rfl) (hs2 : starEach [e2] X.env = [(false, eval e2 X.env)] := by rfl) (hpl : (backTo pos (starEach [e2] X.env)).any (·.1) = false := by rfl) :
    EvE X w (.Call (.Name x p) [e1, e2] [] pos) S Ts (m1.bind fun a => (m2 a).bind fun b => (op [d1 a b, d2 a b]).bind fun d => .ok (pk a b d)) S' R := by
  have h := ev_cS (γ := γ) (S' := S') (R := R) (f := .builtin id) (e := .Call (.Name x p) [e1, e2] [] pos) (op := op) (Rs := fun q : Sigma (fun _ : α => β) => [R1 q.1, R2 q.1 q.2]) (fun q d => pk q.1 q.2 d) (fun q => [d1 q.1 q.2, d2 q.1 q.2]) (fun {ta} ha => pe_callB callU hg hm hv ha hn hdb hs hpl) hop hne (ea_cons (S' := fun q => S2 q.1 q.2) (fun a b => ⟨a, b⟩) h1 (fun a => ea_one (h2 a) hs2) (fun _ _ => rfl) (fun _ _ => rfl) (by rw [hs])) (fun q => .cons (v1 q.1 q.2) (.cons (v2 q.1 q.2) .nil)) (fun q d => hS q.1 q.2 d) (fun q d => hR q.1 q.2 d)
  refine h.cast ?_
  cases m1 with
  | ok a => simp only [Res.bind_ok]; cases m2 a <;> rfl
  | exc x => rfl
  | bad => rfl
/-! ### list(text) -/
def charsD (z : Str) : List D := z.cps.toList.map fun c => .str ⟨#[c]⟩
theorem call_listS (hc : X.calm = true) : CallR X (.type "list") (fun xs H Q => ∃ z : Str, xs = [V.str z] ∧ z.cps.size ≤ sizeLine ∧ ∀ p, H p = none → Q (.ref p) (upd H p (.lst (z.cps.toList.map fun c => V.str ⟨#[c]⟩)))) := by
  intro pins s σ H xs us Q I r h
  obtain ⟨z, rfl, hz, q⟩ := h
  obtain ⟨u, rfl, t, rfl⟩ := vals1 r
  refine call_list_str (hn := hz) (I.ok.hd hc) z t fun h' tk acc c' hk hD hacc => ?_
  have hv : Vals (z.cps.toList.map fun c => V.str ⟨#[c]⟩) acc.toList := by
    refine vals_of_idx _ _ (by rw [Array.length_toList, hacc.1]; simp) fun j v e => ?_
    obtain ⟨c, u, e1, rfl⟩ := hacc.2 j v (by rw [← Array.getElem?_toList]; exact e)
    exact ⟨.str ⟨#[c]⟩, by rw [List.getElem?_map, Array.getElem?_toList, e1]; rfl, u, rfl⟩
  refine ⟨.ref s.heap.objs.size, upd H s.heap.objs.size (.lst (z.cps.toList.map fun c => V.str ⟨#[c]⟩)), I.laid (t' := tk) hk (Nat.le_refl _)
    (show ObjOk X.prog X.w _ _ _ (.lst _) from ⟨by simpa using hz, acc.toList, c', hv, by rw [Array.toArray_toList]; exact hD⟩), rfl, q _ (I.hok.fresh (Nat.le_refl _))⟩
def opListS : List D → Res (List D)
  | [.str z] => if z.cps.size ≤ sizeLine then .ok (charsD z) else .bad
  | _ => .bad
theorem opListS_ne {ds : List D} {z : Exn} (h : opListS ds = .exc z) : False := by unfold opListS at h; split at h <;> (first | cases h | (split at h <;> cases h))
theorem listS_ok {F H : Hp} {us : List V} {ds es : List D} (hc : X.calm = true) (hs : Le F H) (h : opListS ds = .ok es) (r : RnL X.K F H us ds) : ∀ Q : VK, (∀ p xs, H p = none → RpL X.K F xs es → Q (.ref p) (upd H p (.lst xs))) → rC X (.type "list") us H Q := by
  intro Q q
  unfold opListS at h
  split at h
  · split at h
    · cases h
      obtain ⟨u, rfl, r1⟩ := rnl1 r
      cases r1.str
      rename_i z hz
      refine ⟨_, call_listS hc, z, rfl, hz, fun p hp => q p _ hp ?_⟩
      unfold charsD
      generalize z.cps.toList = l
      induction l with
      | nil => exact .nil
      | cons c l ih => exact .cons (.str _) ih
    · cases h
  · cases h
/-! ### a text walked -/
theorem ei_str {tg : Expr} (z : α → Str) {m : Res α} {S1 : α → List Sl} {R1 : α → Sl} (h1 : EvE X w e S Ts m S1 R1) (v1 : ∀ a, vw (S1 a) (R1 a) = some (.str (z a)) := by intros; rfl) : EvI X w tg e S Ts m S1 (fun _ => []) (fun _ => []) (fun a => charsD (z a)) := by
  intro C σ τ F H Q hK hτ E hq hx hb
  refine ⟨_, pi_str can, ?_⟩
  refine h1 C σ τ F H _ hK hτ E (fun a ha u F1 H1 E1 => ?_) hx hb
  have r := E1.last (v1 a)
  refine ⟨z a, r.str, hq a ha [] F1 H1 _ rfl (by simpa using E1.pop) ?_⟩
  intro C L T ρ F H i hK E hv
  refine ⟨fun d hd => ?_, fun hl => (show (z a).cps.size ≤ i by simpa [charsD] using hl)⟩
  unfold charsD at hd
  rw [List.getElem?_map] at hd
  obtain ⟨c, h1, rfl⟩ := Option.map_eq_some_iff.mp hd
  rw [Array.getElem?_toList] at h1
  have hi : i < (z a).cps.size := by
    by_cases hi : i < (z a).cps.size
    · exact hi
    · rw [Array.getElem?_eq_none (by omega)] at h1; cases h1
  refine ⟨hi, fun y H' hy => ?_⟩
  obtain ⟨rfl, c', h2, rfl⟩ := hy
  rw [h1] at h2; cases h2
  exact ⟨F, E, .str _⟩
/-! ### and, or as values -/
theorem ev_band1 {op : PySem.BoolOp} {b : Res Bool} (h : EvE X w e1 S Ts b (fun _ => S) (fun b => .v (.bl b))) : EvE X w (.BoolOp op [e1] pos) S Ts b (fun _ => S) (fun b => .v (.bl b)) := fun C σ τ F H Q hK hτ E hq hx hb => by
  refine ⟨_, pe_one can, h C σ τ F H Q hK hτ E hq hx hb⟩
end
end G
namespace G
open PySem L2
variable {C : EC} {L : List Sl} {ρ : List (Option V)} {F H : Hp}
/-- an owned object goes over from its slot -/
theorem Env.move {i : Nat} {d : D} {x : V} (E : Env C L ρ F H) (hi : L[i]? = some (.ow none d)) (hx : ρ[i]? = some (some x)) : Env C (L.set i .un ++ [.ow none d]) (ρ ++ [some x]) F H := by
  have hl := E.len
  have il := lt_of_get hi
  have sl : (L.set i Sl.un).length = L.length := by simp
  obtain ⟨p, o, a1, a2, a3, a4, a5, _⟩ := E.ow i none d hi
  rw [hx] at a1; cases a1
  have get : ∀ (j : Nat) s, (L.set i .un ++ [.ow none d])[j]? = some s → (j = L.length ∧ s = .ow none d) ∨ (j < L.length ∧ j = i ∧ s = .un) ∨ (j < L.length ∧ j ≠ i ∧ L[j]? = some s ∧ (ρ ++ [some (V.ref p)])[j]? = ρ[j]?) := fun j s h => by
    by_cases hj : j < L.length
    · rw [at_left (by rw [sl]; exact hj)] at h
      by_cases hji : i = j
      · subst hji
        rw [List.getElem?_set_self il] at h; cases h
        exact .inr (.inl ⟨hj, rfl, rfl⟩)
      · rw [List.getElem?_set_ne hji] at h
        exact .inr (.inr ⟨hj, fun z => hji z.symm, h, at_left (by omega)⟩)
    · have hj2 := lt_of_get h
      simp at hj2
      have e : j = L.length := by omega
      subst e
      rw [← sl, at_last] at h
      cases h; exact .inl ⟨rfl, rfl⟩
  have last : (ρ ++ [some (V.ref p)])[L.length]? = some (some (.ref p)) := by rw [← hl]; exact at_last
  have noow : ∀ (j : Nat) q d', j ≠ i → L[j]? = some (.ow q d') → ρ[j]? = some (some (.ref p)) → False := fun j q d' hj h1 h2 => E.apart j i p q d' none d hj h1 hi h2 hx
  refine ⟨by simp [hl], E.sub, fun j e h => ?_, fun j q e h => ?_, fun j e h => ?_, fun j k h => ?_, fun j ds h => ?_, fun j k p' q e q' e' hne h1 h2 h3 h4 => ?_, E.hold, E.gg, E.gn⟩
  · rcases get j _ h with ⟨_, z⟩ | ⟨_, _, z⟩ | ⟨_, _, h1, h2⟩
    · cases z
    · cases z
    · rw [h2]; exact E.va j e h1
  · rcases get j _ h with ⟨rfl, z⟩ | ⟨_, _, z⟩ | ⟨_, _, h1, h2⟩
    · cases z; exact ⟨p, o, last, a2, a3, a4, a5, fun _ z => nomatch z⟩
    · cases z
    · rw [h2]; exact E.ow j q e h1
  · rcases get j _ h with ⟨_, z⟩ | ⟨_, _, z⟩ | ⟨_, _, h1, h2⟩
    · cases z
    · cases z
    · rw [h2]
      obtain ⟨y, b1, b2⟩ := E.rd j e h1
      refine ⟨y, b1, b2.imp id ?_⟩
      rintro ⟨p', o', e1, e2, e3, e4⟩
      refine ⟨p', o', e1, e2, e3, fun k q d' hk hk2 => ?_⟩
      rcases get k _ hk with ⟨rfl, z⟩ | ⟨_, _, z⟩ | ⟨_, _, h3, h4⟩
      · rw [last] at hk2; cases hk2
        exact e4 i none d hi hx
      · cases z
      · rw [h4] at hk2; exact e4 k q d' h3 hk2
  · rcases get j _ h with ⟨_, z⟩ | ⟨_, _, z⟩ | ⟨hj, _, h1, h2⟩
    · cases z
    · cases z
    · obtain ⟨b1, y, b2, b3⟩ := E.al j k h1
      exact ⟨b1, y, by rw [h2]; exact b2, by rw [at_left (by omega)]; exact b3⟩
  · rcases get j _ h with ⟨_, z⟩ | ⟨_, _, z⟩ | ⟨hj, _, h1, h2⟩
    · cases z
    · cases z
    · rw [h2]; exact E.sc j ds h1
  · rcases get j _ h1 with ⟨rfl, z⟩ | ⟨_, _, z⟩ | ⟨hj, hji, g1, g2⟩
    · rcases get k _ h2 with ⟨rfl, _⟩ | ⟨_, _, z'⟩ | ⟨hk, hki, g3, g4⟩
      · exact hne rfl
      · cases z'
      · rw [last] at h3; cases h3
        rw [g4] at h4; exact noow k q' e' hki g3 h4
    · cases z
    · rcases get k _ h2 with ⟨rfl, _⟩ | ⟨_, _, z'⟩ | ⟨hk, hki, g3, g4⟩
      · rw [last] at h4; cases h4
        rw [g2] at h3; exact noow j q e hji g1 h3
      · cases z'
      · rw [g2] at h3; rw [g4] at h4
        exact E.apart j k p' q e q' e' hne g1 g3 h3 h4
section
variable {α β γ δ Ω : Type} {X : Cx} {w : Wx} {S Ts : List Sl} {e e1 e2 e3 : Expr} {m m1 : Res α} {S1 : α → List Sl} {R1 : α → Sl} {m2 : α → Res β} {S2 : α → β → List Sl} {R2 : α → β → Sl} {rest : List Stmt} {KO : Ω → Out} {x : Str} {p px pos spos : Pos}
/-- a name, its object moved -/
theorem ev_mv (i : Nat) {d : D} (hs : S[i]? = some (.ow none d) := by rfl) (hN : X.N[i]? = some x := by rfl)
    (hv : Vis X.env.scope x := by first | exact Or.inl rfl | exact Or.inr (Or.inl rfl) | exact Or.inr (Or.inr rfl))
    (hd : (x == ("__debug__" : Str)) = false := by decide) (hcd : (x == ("__classdict__" : Str)) = false := by decide) : EvE X w (.Name x pos) S Ts (.ok ()) (fun _ => S.set i .un) (fun _ => .ow none d) := by
  intro C σ τ F H Q hK hτ E hq _ _
  have hl := nil_len E hτ
  have hi := lt_of_get hs
  have hs' : (S ++ Ts)[i]? = some (.ow none d) := by rw [at_left hi]; exact hs
  obtain ⟨p, o, a, _⟩ := E.ow i none d hs'
  have E1 := E.move hs' a
  rw [List.set_append_left _ _ hi] at E1
  rw [at_left (by omega)] at a
  exact ⟨_, pe_var hN hv hd hcd, _, a, hq () rfl _ F H E1⟩
/-! ### and, or as values -/
theorem ev_band {b1 b2 : Res Bool} {rs : List Expr} (h1 : EvE X w e1 S Ts b1 (fun _ => S) (fun b => .v (.bl b))) (h2 : EvE X w (.BoolOp .And (e2 :: rs) pos) S Ts b2 (fun _ => S) (fun b => .v (.bl b))) : EvE X w (.BoolOp .And (e1 :: e2 :: rs) pos) S Ts (andR b1 b2) (fun _ => S) (fun b => .v (.bl b)) := by
  intro C σ τ F H Q hK hτ E hq hx hb
  refine ⟨_, pe_and can can, ?_⟩
  unfold andR at hq hx hb
  refine h1 C σ τ F H _ hK hτ E (fun a ha u F1 H1 E1 => ?_) (fun x ex => hx x (exc_bind ex)) (fun eb => hb (bad_bind eb))
  rw [ok_bind ha] at hq hx hb
  have r := Env.last (d := .bl a) E1 rfl
  refine ⟨a, r.bl, ?_⟩
  cases a with
  | true =>
    rw [if_pos rfl]
    exact h2 C σ τ F1 H1 Q hK hτ E1.pop hq hx hb
  | false =>
    rw [if_neg (by decide)]
    exact hq false rfl _ F1 H1 (E1.pop.pushV (.bl _))
theorem ev_bor {b1 b2 : Res Bool} {rs : List Expr} (h1 : EvE X w e1 S Ts b1 (fun _ => S) (fun b => .v (.bl b))) (h2 : EvE X w (.BoolOp .Or (e2 :: rs) pos) S Ts b2 (fun _ => S) (fun b => .v (.bl b))) : EvE X w (.BoolOp .Or (e1 :: e2 :: rs) pos) S Ts (orR b1 b2) (fun _ => S) (fun b => .v (.bl b)) := by
  intro C σ τ F H Q hK hτ E hq hx hb
  refine ⟨_, pe_or can can, ?_⟩
  unfold orR at hq hx hb
  refine h1 C σ τ F H _ hK hτ E (fun a ha u F1 H1 E1 => ?_) (fun x ex => hx x (exc_bind ex)) (fun eb => hb (bad_bind eb))
  rw [ok_bind ha] at hq hx hb
  have r := Env.last (d := .bl a) E1 rfl
  refine ⟨a, r.bl, ?_⟩
  cases a with
  | true =>
    rw [if_pos rfl]
    exact hq true rfl _ F1 H1 (E1.pop.pushV (.bl _))
  | false =>
    rw [if_neg (by decide)]
    exact h2 C σ τ F1 H1 Q hK hτ E1.pop hq hx hb
theorem ev_bnot {b1 : Res Bool} (h1 : EvE X w e1 S Ts b1 (fun _ => S) (fun b => .v (.bl b))) : EvE X w (.UnaryOp .Not e1 pos) S Ts (b1.map (!·)) (fun _ => S) (fun b => .v (.bl b)) := by
  intro C σ τ F H Q hK hτ E hq hx hb
  refine ⟨_, pe_not can, ?_⟩
  refine h1 C σ τ F H _ hK hτ E (fun a ha u F1 H1 E1 => ?_) (fun x ex => hx x (by rw [ex]; rfl)) (fun eb => hb (by rw [eb]; rfl))
  have r := Env.last (d := .bl a) E1 rfl
  refine ⟨a, r.bl, ?_⟩
  exact hq (!a) (by rw [ha]; rfl) _ F1 H1 (E1.pop.pushV (.bl _))
/-! ### -e -/
def negD : D → Res D
  | .int i => .ok (.int (-i))
  | _ => .bad
theorem ev_neg {m1 : Res α} {R1 : α → Sl} {d1 : α → D} (h1 : EvE X w e1 S Ts m1 (fun _ => S) R1) (v1 : ∀ a, vw S (R1 a) = some (d1 a) := by intros; rfl) : EvE X w (.UnaryOp .USub e1 pos) S Ts (m1.bind fun a => negD (d1 a)) (fun _ => S) .v := by
  intro C σ τ F H Q hK hτ E hq hx hb
  refine ⟨_, pe_un un_neg can, ?_⟩
  refine h1 C σ τ F H _ hK hτ E (fun a ha u F1 H1 E1 => ?_) (fun x ex => hx x (exc_bind ex)) (fun eb => hb (bad_bind eb))
  rw [ok_bind ha] at hq hx hb
  have r := E1.last (v1 a)
  generalize d1 a = dd at r hq hb
  cases dd <;> try (exact absurd rfl hb)
  cases r.int
  exact ⟨_, rfl, hq _ rfl _ F1 H1 (E1.pop.pushV (.int _))⟩
/-! ### raise -/
structure ExC (K : PySem.W.Frag) (mg : Str → Option Value) (x : Str) : Prop where
  ex : ∃ (C : Addr) (B newId initId : String) (bmB : List Value), PySem.ExcBaseFacts B newId initId bmB ∧ PySem.W.excIn K C bmB newId = true ∧ mg x = some (.ref C) ∧ PySem.W.keepIn K (.ref C) = true ∧
    PySem.W.subIn K (.ref C) (.type "BaseException") = some true ∧ PySem.W.typeIn K (.ref C) = some (.type "type")
theorem es_raise {m : Res α} {S1 : α → List Sl} {R1 : α → Sl} {cpos rpos : Pos} (hc : X.calm = true) (tk : Takes X w.W) (c : ExC X.K X.mg x) (h1 : EvE X w e S Ts m S1 R1) (hw : ∀ a, WL ((S1 a).map fun _ => Sl.un) w.S := by intros; exact WL.refl _) (hg : Gl X x := by rfl) (hs : starEach [e] X.env = (false, eval e X.env) :: starEach [] X.env := by rfl) (hdb : (x == ("__debug__" : Str)) = false := by decide) :
    EvS X w (.Raise (some (.Call (.Name x p) [e] [] cpos)) none rpos :: rest) S Ts (m.bind fun _ => .exc ⟨x, none⟩) KO := by
  intro C σ τ F H D hK hτ E hq hx hb
  obtain ⟨C1, B, newId, initId, bmB, f1, f2, f3, f4, f5, f6⟩ := c.ex
  refine ⟨_, pss_cons (ps_raise hc tk (SkE.pmk_own1 f1 f2 f3 f4 (raises_own f5 f6) hg can hs hdb)) canB, ?_⟩
  refine h1 C σ τ F H _ hK hτ E (fun a ha u F1 H1 E1 => ?_) (fun x ex => hx x (exc_bind ex) σ) (fun eb => hb (bad_bind eb))
  refine hx ⟨x, none⟩ (by rw [ok_bind ha]) σ _ none F1 H1 ?_ ⟨f3, rfl⟩
  have E2 := E1.pop.pre (by simpa using hτ)
  have hσ : σ.length = (S1 a).length := E2.len
  have E3 : Env C [] [] F1 H1 := Env.pre (L := []) (M := S1 a) (ρ := []) (π := σ) (by simpa using hσ) (by simpa using E2)
  have E4 := E3.uns (S1 a).length σ hσ
  refine Env.wk ?_ (hw a)
  rwa [List.map_const']
end
end G
namespace G
open PySem L2
/-! ## a def that the top has made, with what it does -/
structure DefD (P : Program) (w : World) (K : PySem.W.Frag) (mg : Str → Option Value) (base : Heap) (k : Nat) (x : Str) (n : Nat) (dvs : List V) (sp : Sp) : Prop where
  ex : ∃ (f : Addr) (fd : FuncData) (ps : List Str) (dsv : List Value), ps.length = n ∧ FnG P w K mg base k f fd ps sp ∧ mg x = some (.ref f) ∧ PySem.W.keepIn K (.ref f) = true ∧ Vals dvs dsv ∧ L2.Binds K fd ps dsv
theorem DefD.mono {P w K mg base j k x n dvs sp} (h : DefD P w K mg base j x n dvs sp) (l : j ≤ k) : DefD P w K mg base k x n dvs sp := by
  obtain ⟨f, fd, ps, dsv, h1, h2, h3⟩ := h.ex
  exact ⟨f, fd, ps, dsv, h1, h2.mono l, h3⟩
theorem Env.pushVs {C : EC} {L : List Sl} {ρ : List (Option V)} {F H : Hp} (E : Env C L ρ F H) : ∀ {vs : List V} {ds : List D}, RpL C.K F vs ds → Env C (L ++ ds.map Sl.v) (ρ ++ vs.map some) F H
  | _, _, .nil => by simpa using E
  | _, _, .cons (v := v) (d := d) r t => by
    have := (E.pushV r).pushVs t
    simpa only [List.append_assoc, List.map_cons, List.singleton_append, List.cons_append, List.nil_append] using this
section
variable {αc βc α γ : Type} {X : Cx} {w : Wx} {S Ts : List Sl} {e : Expr} {es : List Expr} {m : Res α} {S1 : α → List Sl} {Rs : α → List Sl} {x : Str} {p pos : Pos} {k n : Nat} {dvs : List V}
/-- x(e, ..) -/
theorem ev_cd {S0c : αc → List Sl} {ios : List Nat} {mc : αc → Res βc} {S1c : βc → List Sl} {Rc : βc → Sl} (S' : γ → List Sl) (R : γ → Sl) (arg : α → αc) (pk : α → βc → γ) (dds : List D)
    (Fn : DefD X.prog X.w X.K X.mg X.base k x n dvs (spF X.K X.mg n S0c ios mc S1c Rc)) (hgd : X.A.guards = some []) (hr : Room k X.A) (tk : Takes X w.W) (hds : ∀ F, RpL X.K F dvs dds)
    (ha : EvA X w (e :: es) S Ts m S1 Rs) (hA : ∀ a, ArgL (S1 a) (Rs a ++ dds.map .v) (S0c (arg a))) (hio : ∀ a, okIo (S1 a) (Rs a ++ dds.map .v) (S0c (arg a)) ios = true := by intros; rfl) (hn : ∀ a, (S0c (arg a)).length = n := by intros; rfl)
    (hw : ∀ a, WL ((S1 a).map fun _ => Sl.un) w.S ∨ (∀ z, mc (arg a) ≠ .exc z) := by intros; exact .inl (WL.refl _)) (hRc : ∀ b, noal (Rc b) = true ∧ nosc (Rc b) = true ∧ ∀ d, Rc b ≠ .rd d := by intros; exact ⟨rfl, rfl, fun _ => nofun⟩)
    (hS : ∀ a b, S' (pk a b) = backL (S1 a) (Rs a ++ dds.map .v) (S1c b) ios := by intros; rfl) (hR : ∀ a b, R (pk a b) = Rc b := by intros; rfl)
    (hg : Gl X x := by rfl) (hdb : (x == ("__debug__" : Str)) = false := by decide) (he : starEach (e :: es) X.env = (false, eval e X.env) :: starEach es X.env := by rfl) (hpl : (backTo pos (starEach es X.env)).any (·.1) = false := by rfl) :
    EvE X w (.Call (.Name x p) (e :: es) [] pos) S Ts (m.bind fun a => (mc (arg a)).bind fun b => .ok (pk a b)) S' R := by
  intro C σ τ F H Q hK hτ E hq hx hbad
  obtain ⟨f, fd, ps, dsv, hps, Fg, hm, hk, hd, hb⟩ := Fn.ex
  refine ⟨_, pe_callG Fg hgd hr hg hm hk hb hd (fun σ => passAt tk σ) canA hdb he hpl, ?_⟩
  refine ha C σ τ F H _ hK hτ E (fun a ha us F1 H1 hl E1' => ?_) (fun x ex => hx x (exc_bind ex)) (fun eb => hbad (bad_bind eb))
  rw [ok_bind ha] at hq hx hbad
  have E1 : Env C (S1 a ++ Ts ++ (Rs a ++ dds.map .v)) (σ ++ τ ++ (us ++ dvs).map some) F1 H1 := by
    have := E1'.pushVs (vs := dvs) (ds := dds) (by rw [hK]; exact hds F1)
    simpa only [List.append_assoc, List.map_append] using this
  have hdl : dvs.length = dds.length := (hds F1).len
  have hl2 : (us ++ dvs).length = (Rs a ++ dds.map Sl.v).length := by simp [hl, hdl]
  have ok := OkIo.of (hio a)
  have E0 := E1.give hl2 (hA a) ok
  rw [hK] at E0
  refine ⟨arg a, F1, hn a, E0, fun eb => hbad (bad_bind eb), fun b hb' u F2 H2 E2 => ?_, fun z hz cls d F2 H2 E2 hi => ?_⟩
  · refine hq (pk a b) (ok_bind hb') u F2 H2 ?_
    rw [hS, hR]
    exact E1.take hl2 ok (hRc b) (by rw [hK]; exact E2)
  · rcases hw a with hw | hw
    · refine hx z (exc_bind hz) cls d F2 H2 ?_ hi
      have hσ : σ.length = (S1 a).length := by have := E1.len; simp [hl, hτ, hdl] at this; omega
      refine Env.wk ?_ hw
      have E3 := Env.pushV (E2.uns (us ++ dvs).length ((us ++ dvs).map some) (by simp)) (x := .non) (d := .non) .non
      have E4 := E1.take hl2 ok (R := .v .non) ⟨rfl, rfl, fun _ => nofun⟩ (by rw [hK]; exact E3)
      have E5 : Env C [] [] F2 H2 := Env.pre (L := []) (M := backL (S1 a) (Rs a ++ dds.map .v) (List.replicate (us ++ dvs).length .un) ios ++ Ts ++ [.v .non]) (ρ := []) (π := σ ++ τ ++ [some .non]) (by simpa using E4.len) (by simpa using E4)
      have := E5.uns (S1 a).length σ hσ
      rwa [List.map_const']
    · exact absurd hz (hw z)
/-- x() -/
theorem ev_cd0 {S0c : αc → List Sl} {mc : αc → Res βc} {S1c : βc → List Sl} {Rc : βc → Sl} (arg : αc)
    (Fn : DefD X.prog X.w X.K X.mg X.base k x 0 [] (spF X.K X.mg 0 S0c [] mc S1c Rc)) (hgd : X.A.guards = some []) (hr : Room k X.A) (tk : Takes X w.W) (h0 : S0c arg = [] := by rfl) (h1 : ∀ b, S1c b = [] := by intros; rfl)
    (hw : WL (S.map fun _ => Sl.un) w.S := by exact WL.refl _) (hRc : ∀ b, noal (Rc b) = true ∧ nosc (Rc b) = true ∧ ∀ d, Rc b ≠ .rd d := by intros; exact ⟨rfl, rfl, fun _ => nofun⟩)
    (hg : Gl X x := by rfl) (hdb : (x == ("__debug__" : Str)) = false := by decide) :
    EvE X w (.Call (.Name x p) [] [] pos) S Ts (mc arg) (fun _ => S) Rc := by
  intro C σ τ F H Q hK hτ E hq hx hbad
  obtain ⟨f, fd, ps, dsv, hps, Fg, hm, hk, hd, hb⟩ := Fn.ex
  refine ⟨_, pe_callG0 Fg hgd hr hg hm hk hb hd (fun σ => passAt tk σ) hdb, ?_⟩
  have E1 : Env C (S ++ Ts ++ []) (σ ++ τ ++ ([] : List V).map some) F H := by simpa using E
  have ok : OkIo S [] [] [] := ⟨fun _ h => (nomatch h), fun _ h => (nomatch h), fun k q d h => by simp at h⟩
  have E0 := E1.give (us := []) rfl .nil ok
  rw [hK] at E0
  have key : spF X.K X.mg 0 S0c [] mc S1c Rc [] H Q (fun cls d H' => w.W cls d σ H') := by
    refine ⟨arg, F, by rw [h0]; rfl, by rw [h0]; exact E0, hbad, fun b hb' u F2 H2 E2 => ?_, fun z hz cls d F2 H2 E2 hi => ?_⟩
    · refine hq b hb' u F2 H2 ?_
      rw [h1 b] at E2
      have := E1.take (S1 := []) (us := []) rfl ok (hRc b) (by rw [hK]; exact E2)
      simpa [backL] using this
    · refine hx z hz cls d F2 H2 ?_ hi
      have hσ : σ.length = S.length := nil_len E hτ
      refine Env.wk ?_ hw
      have E3 := Env.pushV (E2.uns 0 [] rfl) (x := .non) (d := .non) .non
      have E4 := E1.take (S1 := []) (us := []) rfl ok (R := .v .non) ⟨rfl, rfl, fun _ => nofun⟩ (by rw [hK]; exact E3)
      have E5 : Env C [] [] F2 H2 := Env.pre (L := []) (M := S ++ Ts ++ [.v .non]) (ρ := []) (π := σ ++ τ ++ [some .non]) (by simp [hσ, hτ]) (by simpa [backL] using E4)
      have := E5.uns S.length σ hσ
      rwa [List.map_const']
  exact key
end
section
variable {α β γ Ω : Type} {X : Cx} {w : Wx} {S Ts : List Sl} {e tg : Expr} {m1 : Res α} {S1 : α → List Sl} {R1 : α → Sl} {rest : List Stmt} {K : Ω → Out} {x : Str} {px pos tpos : Pos}
/-- a, b = e -/
theorem es_asgG {mg : α → Res γ} {Sg : α → γ → List Sl} {ks : List Nat} {mR : α → γ → Res Ω} (d : α → D) (h1 : EvE X w e S Ts m1 S1 R1) (hg : ∀ a, EvG X tg (S1 a) (d a) (mg a) (Sg a) ks) (h3 : ∀ a g, EvS X w rest (Sg a g) Ts (mR a g) K)
    (hR : ∀ a, R1 a = .v (d a) := by intros; rfl) (hal : ∀ a, (S1 a ++ Ts).all (fun s => ks.all (noalk · s)) = true := by intros; rfl)
    (hs : swapsWithSole [tg] e pos.line X.env = pure false := by rfl) (hw : swappedStores [tg] e X.env = pure none := by rfl) (ha1 : (assignEach [tg] X.env).map (·.2) = [assign tg X.env] := by rfl) :
    EvS X w (.Assign [tg] e pos :: rest) S Ts (m1.bind fun a => (mg a).bind fun g => mR a g) K := by
  intro C σ τ F H D hK hτ E hq hx hb
  refine ⟨_, pss_cons (ps_asg can canG hs hw ha1) canB, ?_⟩
  refine h1 C σ τ F H _ hK hτ E (fun a ha u F1 H1 E1 => ?_) (fun x ex => hx x (exc_bind ex) σ) (fun eb => hb (bad_bind eb))
  rw [ok_bind ha] at hq hx hb
  rw [hR] at E1
  obtain ⟨x1, c1, rv⟩ := E1.va _ _ at_last
  rw [← E1.pop.len, at_last] at c1; cases c1
  refine hg a C Ts σ τ F1 H1 _ _ hK hτ E1.pop (by rw [← hK]; exact rv) (hal a) (fun g hgo σ' _ E2 => ?_) (fun eb => hb (bad_bind eb))
  rw [ok_bind hgo] at hq hx hb
  exact h3 a g C σ' τ F1 H1 D hK hτ E2 hq hx hb
/-- x op= e, ints -/
def opAug : Operator → D → D → Res D
  | .Add, .int a, .int b => .ok (.int (a + b))
  | .Sub, .int a, .int b => .ok (.int (a - b))
  | _, _, _ => .bad
def tipA (X : Cx) (op : Operator) : TIp := fun x y H Q => ∃ t, PIp X op t ∧ t x y H Q
theorem pipA {op : Operator} : PIp X op (tipA X op) := fun pins s σ H x y v u Q I rx ry ⟨_, h, q⟩ => h pins s σ H x y v u Q I rx ry q
theorem es_aug {op : Operator} (i : Nat) {mR : α → D → Res Ω} (d0 : D) (di : α → D) (h1 : EvE X w e S Ts m1 S1 R1) (h3 : ∀ a r, EvS X w rest ((S1 a).set i (.v r)) Ts (mR a r) K) (nd : X.N.Nodup)
    (hs0 : S[i]? = some (.v d0) := by rfl) (hs1 : ∀ a, i < (S1 a).length := by intros; exact Nat.le_of_ble_eq_true rfl) (hv : ∀ a, vw (S1 a) (R1 a) = some (di a) := by intros; rfl) (hal : ∀ a, (S1 a ++ Ts).all (noalk i) = true := by intros; rfl)
    (hN : X.N[i]? = some x := by rfl) (hl : Loc X.env.scope x := by first | exact Or.inl rfl | exact Or.inr rfl) (hf : X.fn x = true ∨ X.env.scope.names.lookup x = some .local := by first | exact .inl rfl | exact .inr rfl) :
    EvS X w (.AugAssign (.Name x px) op e pos :: rest) S Ts (m1.bind fun a => (opAug op d0 (di a)).bind fun r => mR a r) K := by
  intro C σ τ F H D hK hτ E hq hx hb
  refine ⟨_, pss_cons (ps_aug nd hN hl can pipA hf) canB, ?_⟩
  have hi := lt_of_get hs0
  have hl0 := nil_len E hτ
  obtain ⟨v0, a1, a2⟩ := E.va i d0 (by rw [at_left hi]; exact hs0)
  rw [at_left (by omega)] at a1
  refine ⟨v0, a1, ?_⟩
  refine h1 C σ τ F H _ hK hτ E (fun a ha u F1 H1 E1 => ?_) (fun x ex => hx x (exc_bind ex) σ) (fun eb => hb (bad_bind eb))
  rw [ok_bind ha] at hq hx hb
  have r := E1.last (hv a)
  have fin : ∀ (z : Int), opAug op d0 (di a) = .ok (.int z) → CanB X rest D (σ.set i (some (.int z))) H1 := fun z hz => by
    rw [hz] at hq hx hb
    have h1 := hs1 a
    have E2 := (E1.pop.pushV (x := .int z) (d := .int z) (.int z)).setv (k := i) (by simp; omega) rfl rfl (hal a)
    rw [List.set_append_left _ _ h1, List.set_append_left _ _ (by omega)] at E2
    exact h3 a (.int z) C _ τ F1 H1 D hK hτ E2 hq hx hb
  cases eo : opAug op d0 (di a) with
  | bad => rw [eo] at hb; exact absurd rfl hb
  | exc z => exact absurd eo (by unfold opAug; split <;> nofun)
  | ok d =>
    have eo' := eo
    generalize hdi : di a = dd at r eo
    unfold opAug at eo
    split at eo
    · cases eo
      cases a2; cases r.int
      exact ⟨_, ip_add, _, _, rfl, rfl, fin _ eo'⟩
    · cases eo
      cases a2; cases r.int
      exact ⟨_, ip_sub, _, _, rfl, rfl, fin _ eo'⟩
    · cases eo
/-- len(script) -/
theorem ev_lenS {p : Pos} {m1 : Res α} {R1 : α → Sl} {d1 : α → List D} (hm : X.mg "len" = none) (h1 : EvE X w e S Ts m1 (fun _ => S) R1) (v1 : ∀ a, vs S (R1 a) = some (d1 a) := by intros; rfl) (hg : Gl X "len" := by rfl) (hs : starEach [e] X.env = (false, eval e X.env) :: starEach [] X.env := by rfl) (hpl : (backTo pos (starEach [] X.env)).any (·.1) = false := by rfl) :
    EvE X w (.Call (.Name "len" p) [e] [] pos) S Ts (m1.bind fun a => .ok (.int (d1 a).length)) (fun _ => S) .v := by
  intro C σ τ F H Q hK hτ E hq hx hb
  refine ⟨_, pe_callB call_len_seq hg hm PySem.boot_len (pa_cons can pa_nil hs) (by decide) (by decide) hs hpl, ?_⟩
  refine h1 C σ τ F H _ hK hτ E (fun a ha u F1 H1 E1 => ?_) (fun x ex => hx x (exc_bind ex)) (fun eb => hb (bad_bind eb))
  rw [ok_bind ha] at hq hx hb
  obtain ⟨p, xs, rfl, s1, s2⟩ := E1.lastS (v1 a)
  rw [hK] at s1
  exact ⟨p, xs, rfl, .inl s1, hq _ rfl _ F1 H1 (by rw [s2.len]; exact E1.pop.pushV (.int _))⟩
end
end G
namespace G
open PySem L2
section
variable {α β γ δ Ω ε : Type} {X : Cx} {w : Wx} {S Ts : List Sl} {e e1 e2 e3 ie tg iter : Expr} {m m1 : Res α} {S1 : α → List Sl} {R1 : α → Sl} {m2 : α → Res β} {S2 : α → β → List Sl} {R2 : α → β → Sl} {rest body : List Stmt} {KO : Ω → Out} {x y z : Str} {p px py pz pos spos : Pos}
def boolD : D → Res Bool
  | .bl b => .ok b
  | _ => .bad
theorem ev_bcast {m1 : Res α} {R1 : α → Sl} (d1 : α → D) (h1 : EvE X w e S Ts m1 (fun _ => S) R1) (hR : ∀ a, R1 a = .v (d1 a) := by intros; rfl) : EvE X w e S Ts (m1.bind fun a => boolD (d1 a)) (fun _ => S) (fun b => .v (.bl b)) := by
  intro C σ τ F H Q hK hτ E hq hx hb
  refine h1 C σ τ F H Q hK hτ E (fun a ha u F1 H1 E1 => ?_) (fun x ex => hx x (exc_bind ex)) (fun eb => hb (bad_bind eb))
  rw [ok_bind ha] at hq hb
  rw [hR] at E1
  generalize d1 a = dd at hq hb E1
  cases dd <;> try (exact absurd rfl hb)
  exact hq _ rfl u F1 H1 E1
theorem ev_wk {S2 : α → List Sl} (h1 : EvE X w e S Ts m S1 R1) (wk : ∀ a, WL (S1 a) (S2 a)) : EvE X w e S Ts m S2 R1 := fun C σ τ F H Q hK hτ E hq hx hb =>
  h1 C σ τ F H Q hK hτ E (fun a ha u F1 H1 E1 => hq a ha u F1 H1 (E1.wk (((wk a).app (WL.refl Ts)).app (WL.refl _)))) hx hb
theorem ev_asD (v : α → D) (h1 : EvE X w e S Ts m (fun _ => S) R1) (hR : ∀ a, R1 a = .v (v a) := by intros; rfl) : EvE X w e S Ts (m.bind fun a => .ok (v a)) (fun _ => S) .v := fun C σ τ F H Q hK hτ E hq hx hb =>
  h1 C σ τ F H Q hK hτ E (fun a ha u F1 H1 E1 => hq (v a) (by rw [ok_bind ha]) u F1 H1 (by rw [← hR]; exact E1)) (fun x ex => hx x (exc_bind ex)) (fun eb => hb (bad_bind eb))
theorem es_S {sts : List Stmt} {S : List Sl} (S' : List Sl) {m : Res Ω} (h : EvS X w sts S' Ts m KO) (e : S = S' := by rfl) : EvS X w sts S Ts m KO := e ▸ h
/-! ### dicts, once more -/
def dputR (d : List (D × D)) (k v : D) : Res (List (D × D)) := if d.length < sizeLine then match keyOf k with | some k => .ok (dPut d k v) | none => .bad else .bad
def ddelR (d : List (D × D)) (k : D) : Res (List (D × D)) := match keyOf k with | some k => if (dGet d k).isSome then .ok (dDel d k) else .bad | none => .bad
theorem es_dputR (i : Nat) {mR : α → β → List (D × D) → Res Ω} (q : α → β → Option Addr) (d : α → β → List (D × D)) (v : α → D) (di : α → β → D) (hu : X.A.units + 65 < cLine) (h1 : EvE X w e S Ts m1 S1 R1) (h2 : ∀ a, EvE X w ie (S1 a) (Ts ++ [R1 a]) (m2 a) (S2 a) (R2 a)) (h3 : ∀ a b r, EvS X w rest ((S2 a b).set i (.ow (q a b) (.dict r))) Ts (mR a b r) KO)
    (hv : ∀ a, R1 a = .v (v a) := by intros; rfl) (hvi : ∀ a b, vw (S2 a b) (R2 a b) = some (di a b) := by intros; rfl) (hi1 : ∀ a, ∃ s, (S1 a)[i]? = some s ∧ ∃ q d, s = .ow q d := by intros; exact ⟨_, rfl, _, _, rfl⟩) (hi : ∀ a b, (S2 a b)[i]? = some (.ow (q a b) (.dict (d a b))) := by intros; rfl)
    (hN : X.N[i]? = some x := by rfl) (hvis : Vis X.env.scope x := by first | exact Or.inl rfl | exact Or.inr (Or.inl rfl) | exact Or.inr (Or.inr rfl))
    (hd : (x == ("__debug__" : Str)) = false := by decide) (hcd : (x == ("__classdict__" : Str)) = false := by decide)
    (hs : swapsWith e (some (.Subscript (.Name x px) ie spos)) pos.line X.env = pure false := by rfl) :
    EvS X w (.Assign [.Subscript (.Name x px) ie spos] e pos :: rest) S Ts (m1.bind fun a => (m2 a).bind fun b => (dputR (d a b) (di a b) (v a)).bind fun r => mR a b r) KO := by
  refine (es_dput i q d v di hu h1 h2 h3 hv hvi hi1 hi hN hvis hd hcd hs).cast ?_
  congr 1; funext a; congr 1; funext b
  unfold dputR
  split
  · cases keyOf (di a b) <;> rfl
  · rfl
theorem es_ddelR (i : Nat) {mR : α → List (D × D) → Res Ω} {tpos : Pos} (q : α → Option Addr) (d : α → List (D × D)) (di : α → D) (h1 : EvE X w ie S Ts m1 S1 R1) (h3 : ∀ a r, EvS X w rest ((S1 a).set i (.ow (q a) (.dict r))) Ts (mR a r) KO)
    (hvi : ∀ a, vw (S1 a) (R1 a) = some (di a) := by intros; rfl) (hi1 : ∃ s, S[i]? = some s ∧ ∃ q d, s = .ow q d := by exact ⟨_, rfl, _, _, rfl⟩) (hi : ∀ a, (S1 a)[i]? = some (.ow (q a) (.dict (d a))) := by intros; rfl)
    (hN : X.N[i]? = some x := by rfl) (hvis : Vis X.env.scope x := by first | exact Or.inl rfl | exact Or.inr (Or.inl rfl) | exact Or.inr (Or.inr rfl))
    (hd : (x == ("__debug__" : Str)) = false := by decide) (hcd : (x == ("__classdict__" : Str)) = false := by decide) :
    EvS X w (.Delete [.Subscript (.Name x px) ie tpos] pos :: rest) S Ts (m1.bind fun a => (ddelR (d a) (di a)).bind fun r => mR a r) KO := by
  refine (es_ddel i q d di h1 h3 hvi hi1 hi hN hvis hd hcd).cast ?_
  congr 1; funext a
  unfold ddelR
  cases keyOf (di a) with
  | none => rfl
  | some k =>
    simp only
    split <;> rfl
/-- d.pop(k) -/
theorem ev_dm1 {d0 : List (D × D)} {q0 : Option Addr} {e1 : Expr} {es : List Expr} {Rs : α → List Sl} {mn : Str} {id : String} {apos cpos : Pos} {op : List (D × D) → List D → Res (D × List (D × D))} (slot : PySem.Slot "dict" mn id) (hty : typeOf (.builtin id) = pure (.type "method_descriptor"))
    (hop : ∀ {d : List (D × D)} {ds : List D} {r : D × List (D × D)} {F H : Hp} {p : Addr} {us : List V} {o : HO}, op d ds = .ok r → H p = some o → Top X.K F o (.dict d) → RpL X.K F us ds → ∃ o' z, Top X.K F o' (.dict r.2) ∧ Rp X.K F z r.1 ∧ ∀ Q : VK, Q z (upd H p o') → rM X id (.ref p) us H Q)
    (hne : ∀ {d : List (D × D)} {ds : List D} {x : Exn}, op d ds = .exc x → False) (i : Nat) (S' : γ → List Sl) (R : γ → Sl) (pk : α → D × List (D × D) → γ) (q : α → Option Addr) (d : α → List (D × D)) (ds : α → List D) (ha : EvA X w (e1 :: es) S Ts m S1 Rs)
    (h0 : S[i]? = some (.ow q0 (.dict d0)) := by rfl) (hi : ∀ a, (S1 a)[i]? = some (.ow (q a) (.dict (d a))) := by intros; rfl) (hv : ∀ a, Rs a = (ds a).map Sl.v := by intros; rfl)
    (hS : ∀ a r, S' (pk a r) = (S1 a).set i (.ow (q a) (.dict r.2)) := by intros; rfl) (hR : ∀ a r, R (pk a r) = .v r.1 := by intros; rfl)
    (hN : X.N[i]? = some x := by rfl) (hvis : Vis X.env.scope x := by first | exact Or.inl rfl | exact Or.inr (Or.inl rfl) | exact Or.inr (Or.inr rfl))
    (hd : (x == ("__debug__" : Str)) = false := by decide) (hcd : (x == ("__classdict__" : Str)) = false := by decide)
    (hbase : attributeBase (.Name x px) mn X.env (eval (.Name x px) X.env) = eval (.Name x px) X.env := by rfl)
    (hfew : ((backTo cpos (starEach (e1 :: es) X.env)).all (fun x => !x.1) && (backToKw cpos (keywordEach [] X.env)).all (fun x => x.1.isSome) && decide ((e1 :: es).length + ([] : List Keyword).length + (if ([] : List Keyword).isEmpty then 0 else 1) < 30)) = true := by rfl)
    (hline : (apos.endLine == cpos.line) = true := by rfl) (hs : starEach (e1 :: es) X.env = (false, eval e1 X.env) :: starEach es X.env := by rfl) (hplain : (backTo cpos (starEach es X.env)).any (·.1) = false := by rfl) :
    EvE X w (.Call (.Attribute (.Name x px) mn apos) (e1 :: es) [] cpos) S Ts (m.bind fun a => (op (d a) (ds a)).bind fun r => .ok (pk a r)) S' R := by
  intro C σ τ F H Q hK hτ E hq hx hb
  refine ⟨_, pe_bm PySem.F.plainAttrs_dict slot hty mtU (pe_var hN hvis hd hcd) canA hbase hfew hline hs hplain, ?_⟩
  have hl := nil_len E hτ
  have hi0 := lt_of_get h0
  obtain ⟨p, o, a1, a2, _, a4, _⟩ := E.ow i _ _ (by rw [at_left hi0]; exact h0)
  rw [at_left (by omega)] at a1
  obtain ⟨xs0, rfl, _⟩ := a4
  refine ⟨_, a1, .inr (.inr (.inl ⟨rfl, .inl ⟨xs0, a2⟩⟩)), ?_⟩
  refine ha C σ τ F H _ hK hτ E (fun a ha us F1 H1 hlu E1 => ?_) (fun x ex => hx x (exc_bind ex)) (fun eb => hb (bad_bind eb))
  rw [ok_bind ha] at hq hb
  rw [hv a] at E1 hlu
  have hl' : us.length = (ds a).length := by simpa using hlu
  have rs := E1.vals hl'
  have E2 := E1.pre (by simpa using hl')
  have hi1 := lt_of_get (hi a)
  have g1 : (S1 a ++ Ts)[i]? = some (.ow (q a) (.dict (d a))) := by rw [at_left hi1]; exact hi a
  obtain ⟨p', o', b1, b2, b3, b4, b5⟩ := E2.ow i _ _ g1
  have b1' := b1
  rw [at_left (by omega), a1] at b1; cases b1
  rw [hK] at rs b4
  cases eo : op (d a) (ds a) with
  | bad => rw [eo] at hb; exact absurd rfl hb
  | exc x => exact (hne eo).elim
  | ok r =>
    rw [eo] at hq
    obtain ⟨o2, z, t2, rz, k⟩ := hop eo b2 b4 rs
    refine k _ (hq (pk a r) rfl z F1 _ ?_)
    rw [hS, hR]
    have E3 := E2.write (d' := .dict r.2) g1 b1' (by rw [hK]; exact t2)
    rw [List.set_append_left _ _ hi1] at E3
    exact E3.pushV (by rw [hK]; exact rz)
def opDPop : List (D × D) → List D → Res (D × List (D × D))
  | es, [k] => match keyOf k with
    | some k => match dGet es k with
      | some v => .ok (v, dDel es k)
      | none => .bad
    | none => .bad
  | _, _ => .bad
theorem dpop_ne {d : List (D × D)} {ds : List D} {x : Exn} (e : opDPop d ds = .exc x) : False := by
  unfold opDPop at e
  split at e
  · split at e
    · split at e <;> cases e
    · cases e
  · cases e
theorem mt_dpop : MtR X "dict.pop" (fun x vs H Q => ∃ (a : Addr) (kvs : List (Key × V)) (k : Key) (v : V), x = .ref a ∧ vs = [kV k] ∧ H a = some (.dK kvs) ∧ valV kvs k = some v ∧ Q v (upd H a (.dK (dropK kvs k)))) := by
  intro pins s σ H x vs v us Q I rx rv h
  obtain ⟨a, kvs, k, w, rfl, rfl, e, l, q⟩ := h
  cases rx
  obtain ⟨u, rfl, ru⟩ := vals1 rv
  exact d_pop I e ru l (.inl rfl) fun w' s' I' r' => ⟨w, _, I', r', q⟩
theorem dpop_ok {d : List (D × D)} {ds : List D} {r : D × List (D × D)} {F H : Hp} {p : Addr} {us : List V} {o : HO} (h : opDPop d ds = .ok r) (hp : H p = some o) (t : Top X.K F o (.dict d)) (hu : RpL X.K F us ds) : ∃ o' z, Top X.K F o' (.dict r.2) ∧ Rp X.K F z r.1 ∧ ∀ Q : VK, Q z (upd H p o') → rM X "dict.pop" (.ref p) us H Q := by
  obtain ⟨kvs, rfl, rk⟩ := t
  unfold opDPop at h
  split at h
  · rename_i k
    split at h
    · rename_i key hk
      split at h
      · rename_i v hv
        cases h
        cases hu with
        | cons ru rt =>
          cases rt
          rcases rk.get (k := key) with ⟨c1, _⟩ | ⟨w, d', c1, c2, c3⟩
          · rw [c1] at hv; cases hv
          · rw [c1] at hv; cases hv
            have : _ = kV key := Rn.key (H := H) (.inl ru) hk
            subst this
            exact ⟨.dK (dropK kvs key), w, ⟨_, rfl, rk.del⟩, c3, fun Q q => ⟨_, mt_dpop, p, kvs, key, w, rfl, rfl, hp, c2, q⟩⟩
      · cases h
    · cases h
  · cases h
/-! ### a value walked, whatever it is -/
def iterD : D → Res (D × List D)
  | .list xs => .ok (.list xs, xs)
  | .tup xs => .ok (.tup xs, xs)
  | .str z => .ok (.str z, charsD z)
  | _ => .bad
def srcOf : D → Src
  | .list xs => .lst xs
  | .tup xs => .tup xs
  | _ => .any
theorem pvs_src {L : List Sl} {d : D} : pvs L [.v d] [srcOf d] := by
  refine ⟨?_, trivial⟩
  cases d <;> first | trivial | rfl
theorem ItOk.tup {R : Sl} {ds : List D} {a : Addr} : ItOk X (Itt X.K a) [.ref a] [R] [.tup ds] ds := by
  intro C L T ρ F H i hK E hv
  obtain ⟨p', ys, e, hy, hr⟩ := (Env.last (u := .ref a) E hv.1).tup E.sub
  cases e
  rw [hK] at hy hr
  refine ⟨fun d hd => ?_, fun hl => ⟨ys, hy, by rw [hr.len]; exact hl⟩⟩
  obtain ⟨x, g1, g2⟩ := hr.get hd
  refine ⟨⟨ys, x, hy, g1⟩, fun y H' hyy => ?_⟩
  obtain ⟨rfl, hyy⟩ := hyy
  have := hyy ys hy
  rw [g1] at this; cases this
  exact ⟨F, E, g2⟩
theorem ei_any (d1 : α → D) (h1 : EvE X w e S Ts m S1 R1) (hR : ∀ a, R1 a = .v (d1 a) := by intros; rfl) (hS : ∀ a, S1 a = S := by intros; rfl) : EvI X w tg e S Ts (m.bind fun a => iterD (d1 a)) (fun _ => S) (fun q => [.v q.1]) (fun q => [srcOf q.1]) (fun q => q.2) := by
  intro C σ τ F H Q hK hτ E hq hx hb
  cases hm : m with
  | bad => rw [hm] at hb; exact absurd rfl hb
  | exc x =>
    exact ⟨_, pi_list can, h1 C σ τ F H _ hK hτ E (fun a ha => by rw [hm] at ha; cases ha) (fun y ey => hx y (by rw [hm] at ey ⊢; cases ey; rfl)) (by rw [hm]; nofun)⟩
  | ok a =>
    rw [hm] at hq hx hb
    simp only [Res.bind_ok] at hq hx hb
    have fin : ∀ {t : TI}, PI X tg e t → (∀ u F1 H1, Env C (S ++ Ts ++ [.v (d1 a)]) (σ ++ τ ++ [some u]) F1 H1 → ∃ te, PE X e te ∧ True) → True := fun _ _ => trivial
    have step : ∀ (R : VK), (∀ u F1 H1, Env C (S ++ Ts ++ [.v (d1 a)]) (σ ++ τ ++ [some u]) F1 H1 → R u H1) → Can X e σ H R := fun R hR2 =>
      h1 C σ τ F H R hK hτ E (fun a' ha' u F1 H1 E1 => by
        rw [hm] at ha'; cases ha'
        refine hR2 u F1 H1 ?_
        rw [← hR, ← hS a]; exact E1) (fun y ey => by rw [hm] at ey; cases ey) (by rw [hm]; nofun)
    generalize d1 a = dd at hq hb step
    cases dd with
    | list xs =>
      refine ⟨_, pi_list can, step _ fun u F1 H1 E1 => ?_⟩
      obtain ⟨p, vs, rfl, h2, h3⟩ := vq_list (ds := xs) E1 rfl
      rw [hK] at h2
      exact ⟨p, rfl, ⟨vs, h2⟩, hq (.list xs, xs) rfl [.ref p] F1 H1 _ rfl E1 ItOk.list⟩
    | tup xs =>
      refine ⟨_, pi_tup can, step _ fun u F1 H1 E1 => ?_⟩
      obtain ⟨p, vs, rfl, h2, h3⟩ := (Env.last (d := .tup xs) E1 rfl).tup E1.sub
      rw [hK] at h2
      exact ⟨p, rfl, ⟨vs, h2⟩, hq (.tup xs, xs) rfl [.ref p] F1 H1 _ rfl E1 ItOk.tup⟩
    | str zz =>
      refine ⟨_, pi_str can, step _ fun u F1 H1 E1 => ?_⟩
      have r := Env.last (d := .str zz) E1 rfl
      refine ⟨zz, r.str, hq (.str zz, charsD zz) rfl [u] F1 H1 _ rfl E1 ?_⟩
      intro C L T ρ F H i hK E hv
      refine ⟨fun d hd => ?_, fun hl => (show zz.cps.size ≤ i by simpa [charsD] using hl)⟩
      unfold charsD at hd
      rw [List.getElem?_map] at hd
      obtain ⟨c, h1, rfl⟩ := Option.map_eq_some_iff.mp hd
      rw [Array.getElem?_toList] at h1
      have hi : i < zz.cps.size := by
        by_cases hi : i < zz.cps.size
        · exact hi
        · rw [Array.getElem?_eq_none (by omega)] at h1; cases h1
      refine ⟨hi, fun y H' hy => ?_⟩
      obtain ⟨rfl, c', h2, rfl⟩ := hy
      rw [h1] at h2; cases h2
      exact ⟨F, E, .str _⟩
    | _ => exact absurd rfl hb
/-! ### if: some ways out, some fall through -/
def endM {β ε Ω : Type} (mR : β → Res Ω) (emb : ε → Ω) : β ⊕ ε → Res Ω
  | .inl b => mR b
  | .inr o => .ok (emb o)
theorem es_ifmE {t : Expr} {A B : List Stmt} {mt : Res α} {St1 : α → List Sl} {bt : α → Bool} {SJ : β → List Sl} {KE : ε → Out} {mA mB : α → Res (β ⊕ ε)} {mR : β → Res Ω} (emb : ε → Ω) (ht : EvT X w t S Ts mt St1 bt) (hA : ∀ a, EvS X w A (St1 a) Ts (mA a) (mix SJ KE)) (hB : ∀ a, EvS X w B (St1 a) Ts (mB a) (mix SJ KE)) (hR : ∀ b, EvS X w rest (SJ b) Ts (mR b) KO)
    (hs : ∀ o, stays (KE o) = true := by intro o; rfl) (hl : ∀ o, OL (KO (emb o)) (KE o) := by intro o; first | exact .rfl _ | exact .gc _) :
    EvS X w (.If t A B pos :: rest) S Ts ((mt.bind fun a => if bt a then mA a else mB a).bind (endM mR emb)) KO := by
  refine (es_ifm (pos := pos) emb ht hA hB hR hs hl).cast ?_
  congr 1
theorem es_forLE {KE : ε → Out} {mg : β → D → Res γ} {Sg : β → D → γ → List Sl} {mB : β → D → γ → Res (β ⊕ Ex β ε)} {ks : List Nat} {mR : β → Res Ω} {f : List (D × D) → List D} {s : Sl} {es : List (D × D)} (i : Nat) (SJ : β → List Sl) (b0 : β) (emb : ε → Ω)
    (hp : PassesOwn (model X.prog X.w) X.A X.env X.xe) (hc : X.calm = true) (hL : LkI X tg iter i f) (wk : WL S (SJ b0))
    (hg : ∀ b d, EvG X tg (SJ b) d (mg b d) (Sg b d) ks) (hB : ∀ b d g, EvS X w body (Sg b d g) Ts (mB b d g) (turnK SJ KE)) (hR : ∀ b, EvS X w rest (SJ b) Ts (mR b) KO)
    (hs0 : S[i]? = some s := by rfl) (hds : dsl s = some es := by rfl)
    (hal : ∀ b, (SJ b ++ Ts).all (fun s => ks.all (noalk · s)) = true := by intros; rfl)
    (hs : ∀ o, ∃ S R, KE o = .rt S R ∧ noal R = true := by intro o; first | exact ⟨_, _, rfl, rfl⟩ | exact ⟨_, _, rfl, optS_noal _⟩) (hl : ∀ o, KO (emb o) = KE o := by intro o; rfl)
    (hf : ∀ x, foldedSetIterable iter X.env x = pure x := by intro _; rfl) :
    EvS X w (.For tg iter body [] pos :: rest) S Ts ((nox (forD (fun b d => (mg b d).bind (mB b d)) (f es) b0)).bind (endR mR emb)) KO := by
  refine (es_forL (pos := pos) i SJ b0 emb hp hc hL wk hg hB hR hs0 hds hal hs hl hf).cast ?_
  congr 1
/-! ### within a block nothing is raised -/
theorem takesW {n : Nat} : Takes X (Wno n).W := fun _ _ x => by
  obtain ⟨_, _, _, _, _, _, _, _, _, _, _, _, _, _, _, _, z⟩ := x
  exact z.elim
/-! ### a def's end -/
inductive SrL (pa : Nat → Addr) : Nat → List Sl → List Sl → List Sl → Prop
  | nil {i S0 Sr} : SrL pa i S0 [] Sr
  | un {i s0 S0 S1 s S} : SrL pa (i + 1) S0 S1 S → SrL pa i (s0 :: S0) (.un :: S1) (s :: S)
  | io {i d0 S0 d S1 S} : SrL pa (i + 1) S0 S1 S → SrL pa i (.ow none d0 :: S0) (.ow none d :: S1) (.ow (some (pa i)) d :: S)
theorem SrL.get {pa : Nat → Addr} : ∀ {i : Nat} {S0 S1 Sr : List Sl}, SrL pa i S0 S1 Sr → ∀ (j : Nat) s, S1[j]? = some s → s = .un ∨ ∃ q d d0, s = .ow q d ∧ S0[j]? = some (.ow none d0) ∧ Sr[j]? = some (.ow (some (pa (i + j))) d) ∧ q = none
  | _, _, _, _, .nil, j, s, h => by simp at h
  | _, _, _, _, .un t, 0, s, h => by simp at h; exact .inl h.symm
  | _, _, _, _, .io t, 0, s, h => by simp at h; subst h; exact .inr ⟨_, _, _, rfl, rfl, rfl, rfl⟩
  | i, _, _, _, .un t, j + 1, s, h => by
    have := t.get j s (by simpa using h)
    simpa only [List.getElem?_cons_succ, show i + 1 + j = i + (j + 1) by omega] using this
  | i, _, _, _, .io t, j + 1, s, h => by
    have := t.get j s (by simpa using h)
    simpa only [List.getElem?_cons_succ, show i + 1 + j = i + (j + 1) by omega] using this
theorem SrL.all {α β : Type} {S0 : α → List Sl} {S1 : β → List Sl} {Sr : (Nat → Addr) → β → List Sl} (h : ∀ a pa b, SrL pa 0 (S0 a) (S1 b) (Sr pa b)) : ∀ a pa b (i : Nat) s, (S1 b)[i]? = some s → s = .un ∨ ∃ q d d0, s = .ow q d ∧ (S0 a)[i]? = some (.ow none d0) ∧ (Sr pa b)[i]? = some (.ow (some (pa i)) d) ∧ q = none := fun a pa b i s e => by
  have := (h a pa b).get i s e
  rwa [Nat.zero_add] at this
end
end G
namespace G
theorem huG {k : Nat} {A : PySem.Around} (hr : L2.Room k A) : A.units + 65 < PySem.cLine := by have := hr.un; omega
end G
namespace G
open PySem L2 PySem.Spec PyProof.Rows
/-! ### sorted(d.values()) -/
def sortVals (es : List (D × D)) : Res (List D) := match intsOf (es.map (·.2)) with
  | some ns => if ns.length < 64 then .ok ((srtI ns).map .int) else .bad
  | none => .bad
end G
namespace G
open PySem L2 PySem.Spec PyProof.Rows
theorem ints_each2 {us : List Value} {ks : List Int} (hl : us.length = ks.length) (h : ∀ (j : Nat) (v : Value), us[j]? = some v → ∃ (x : Int) (t : Tok), ks[j]? = some x ∧ v = Value.int x t) : IntsAre us ks := ints_each hl h
def tSortVals (td : TE) : TE := fun σ H Q => td σ H fun x H1 => ∃ a kvs is, x = V.ref a ∧ Rd H1 a (.dK kvs) ∧ kvs.map (·.2) = is.map V.int ∧ is.length < 64 ∧ ∀ (ys : List Int) (p : Addr), ys.Perm is → ys.Pairwise (· ≤ ·) → H1 p = none → Q (.ref p) (upd H1 p (.lst (ys.map V.int)))
theorem pe_sortVals {X : Cx} {o : Expr} {p pos apos mpos : Pos} {td : TE} (hc : X.calm = true) (hg : Gl X "sorted") (hm : X.mg "sorted" = none) (hd : PE X o td) (hbase : attributeBase o "values" X.env (eval o X.env) = eval o X.env := by rfl) (hline : (apos.endLine == mpos.line) = true := by rfl)
    (hse : starEach [Expr.Call (.Attribute o "values" apos) [] [] mpos] X.env = [(false, eval (Expr.Call (.Attribute o "values" apos) [] [] mpos) X.env)] := by rfl) :
    PE X (.Call (.Name "sorted" p) [.Call (.Attribute o "values" apos) [] [] mpos] [] pos) (tSortVals td) := by
  refine ⟨fun pins s σ H Q I h => ?_⟩
  refine wpAny_Call_Name_kw (ld_blt I hg hm (u := .builtin "sorted") (by decide +kernel) ?_ (by decide) (by decide))
  rw [hse]
  refine PySem.callWith_builtin1 (wpAny_Call_method0_late hbase hline (thn (hd.run pins s σ H _ I h) fun v s1 ⟨x, H1, I1, r1, a, kvs, is, ex, ha, hv, h64, q⟩ => ?_))
  subst ex
  obtain rfl : v = Value.ref a := r1
  obtain ⟨_, hsys, vs, rel, dof⟩ := dk_rd I1.hok ha
  obtain ⟨ep, dat⟩ := dof.dictAt
  have dat' := dat
  obtain ⟨ob, es, ho, ex, hdat, hko, hpr, hnd⟩ := dat'
  refine ⟨"dict", "dict.values", F.plainAttrs_dict, F.slot_dict_values, F.type_dict_values, ⟨ob, ho, ex.1⟩, fun b e => ?_, Calls.callWith_builtin rfl (PySem.evalArgs_none ?_)⟩
  · cases e
    exact ⟨ob, ho, ex.2.1⟩
  refine call_meetsIn F.slot_dict_values ⟨ob, ho, ex.1⟩ F.entry_dict_values (F.args_dict_values_1 _) (meets_dict_values (mixKind X.prog X.w) a hsys) ⟨⟨vs, dof⟩, ?_⟩
  have k1 : ∀ b u, s1.heap.get? b = some u → (s1.heap.push { cls := .type "dict_values", data := .fields #[.ref a] }).get? b = some u := fun b u e => Heap.get?_push_of_some _ e
  have dat1 : (s1.heap.push { cls := .type "dict_values", data := .fields #[.ref a] }).DictAt (mixKind X.prog X.w) a vs ep := dat.keep k1
  have I2 : Inv X pins σ H1 { s1 with heap := s1.heap.push { cls := .type "dict_values", data := .fields #[.ref a] } } := I1.kept (t' := s1.toks) k1
  have hlv : vs.length = is.length := by
    have e1 := congrArg List.length hv
    rw [List.length_map, List.length_map] at e1
    rw [← e1]
    exact (KV.length rel).symm
  have h16 : vs.length ≤ sizeLine := by rw [hlv, sizeLine_eq]; omega
  have hvw : (s1.heap.push { cls := .type "dict_values", data := .fields #[.ref a] }).IsValuesView s1.heap.objs.size a := ⟨_, Heap.get?_push_size _ rfl, rfl, rfl⟩
  show wpAny _ _ (call (.builtin "sorted") [.ref s1.heap.objs.size]) _ _ { s1 with heap := s1.heap.push { cls := .type "dict_values", data := .fields #[.ref a] } }
  generalize s1.heap.push { cls := .type "dict_values", data := .fields #[.ref a] } = hp2 at I2 dat1 hvw
  refine Calls.call_function_entry PyProof.Rows.kind_sorted PyProof.Rows.plain_sorted PyProof.Rows.entry_sorted (PyProof.Rows.args_sorted1 _) ?_
  unfold Builtin.«sorted»
  refine wpAny_bind (m := checkCount "sorted" 1 1 _) (wpAny_pure ?_)
  refine wpAny_bind (PySem.W.kdu_collect (A := X.A.in1) (PySem.W.kdl_values (knd := mixKind X.prog X.w) (kvs := vs) (ep := ep)) (I.ok.hd hc) ⟨hvw, dat1⟩ h16 fun h' tk acc hk hacc => ?_)
  have hal : acc.toList.length = is.length := by rw [Array.length_toList, hacc.1, hlv]
  have hS : IntsAre acc.toList is := ints_each hal fun j v e => by
    obtain ⟨k, e1⟩ := hacc.2 j v (by rw [← Array.getElem?_toList]; exact e)
    obtain ⟨x, h1, h2⟩ := KV.at' rel e1
    have e3 : (kvs.map (·.2))[j]? = some x := by rw [List.getElem?_map, h1]; rfl
    rw [hv, List.getElem?_map] at e3
    obtain ⟨y, hy, e4⟩ := Option.map_eq_some_iff.mp e3
    subst e4
    obtain ⟨t, e5⟩ := h2
    exact ⟨y, t, hy, e5⟩
  have I3 : Inv X pins σ H1 { s1 with heap := h', toks := tk } := I2.kept hk
  refine wpAny_bind (wpAny_newList ?_ (by rw [hal, sizeLine_eq]; omega))
  have hoL : (h'.push (seqObj "list" acc.toList.toArray 0)).get? h'.objs.size = some (seqObj "list" acc.toList.toArray 0) := Heap.get?_push_size _ rfl
  show wpAny _ _ _ _ _ { s1 with heap := h'.push (seqObj "list" acc.toList.toArray 0), toks := tk }
  refine wpAny_bind (wpAny_holding (wpAny_call_entry PyProof.Rows.slot_list_sort ⟨_, hoL, rfl⟩ PyProof.Rows.entry_list_sort
    (PyProof.Rows.list_sort_tree (s := { s1 with heap := h'.push (seqObj "list" acc.toList.toArray 0), toks := tk }) hoL hS (by rw [hal]; exact h64) fun out ys g1 g2 g3 => ⟨_, rfl, ?_⟩) (PyProof.Rows.args_list_sort _)))
  obtain ⟨e', he'⟩ := PyProof.Rows.sortedHeap_at (vs := acc.toList) (out := out) hoL
  have hlen : (ys.map V.int).length ≤ sizeLine := by
    rw [List.length_map, g2.length_eq]
    exact Nat.le_trans (Nat.le_of_lt h64) (by decide)
  refine wpAny_pure ⟨_, rfl, .ref h'.objs.size, upd H1 h'.objs.size (.lst (ys.map V.int)), I3.laid (t' := tk) (fun b u e => ?_) (Nat.le_refl _)
    (show ObjOk X.prog X.w _ _ _ (.lst (ys.map V.int)) from ⟨hlen, out.toList, e', vals_of_ints g1, he'⟩), rfl, q ys _ g2 g3 (I3.hok.fresh (Nat.le_refl _))⟩
  have hb : b < h'.objs.size := Heap.lt_size e
  rw [PyProof.Rows.sortedHeap_old (Nat.ne_of_lt hb) (by rw [size_push']; exact Nat.lt_succ_of_lt hb)]
  exact Heap.get?_push_of_some _ e
theorem RpK.vals {K : PySem.W.Frag} {F : Hp} : ∀ {kvs : List (Key × V)} {es : List (D × D)} {ns : List Int}, RpK K F kvs es → intsOf (es.map (·.2)) = some ns → kvs.map (·.2) = ns.map V.int
  | _, _, ns, .nil, h => by cases h; rfl
  | _, _, ns, .cons (d := d) r t, h => by
    cases d <;> simp only [List.map_cons, intsOf] at h <;> try (cases h; done)
    obtain ⟨ms, h1, rfl⟩ := Option.map_eq_some_iff.mp h
    cases r
    simp [RpK.vals t h1]
def dv2 : Sl → Option (List (D × D))
  | .v (.dict es) => some es
  | .rd (.dict es) => some es
  | .ow _ (.dict es) => some es
  | _ => none
theorem ev_sortVals {X : Cx} {w : Wx} {S Ts : List Sl} {s : Sl} {es : List (D × D)} {x : Str} {p px pos apos mpos : Pos} (i : Nat) (hc : X.calm = true) (hm : X.mg "sorted" = none) (hg : Gl X "sorted" := by rfl) (hs0 : S[i]? = some s := by rfl) (hd0 : dv2 s = some es := by rfl) (hN : X.N[i]? = some x := by rfl)
    (hv : Vis X.env.scope x := by first | exact Or.inl rfl | exact Or.inr (Or.inl rfl) | exact Or.inr (Or.inr rfl)) (hdb : (x == ("__debug__" : Str)) = false := by decide) (hcd : (x == ("__classdict__" : Str)) = false := by decide)
    (hbase : attributeBase (.Name x px) "values" X.env (eval (.Name x px) X.env) = eval (.Name x px) X.env := by rfl) (hline : (apos.endLine == mpos.line) = true := by rfl)
    (hse : starEach [Expr.Call (.Attribute (.Name x px) "values" apos) [] [] mpos] X.env = [(false, eval (Expr.Call (.Attribute (.Name x px) "values" apos) [] [] mpos) X.env)] := by rfl) :
    EvE X w (.Call (.Name "sorted" p) [.Call (.Attribute (.Name x px) "values" apos) [] [] mpos] [] pos) S Ts (sortVals es) (fun _ => S) (fun r => .ow none (.list r)) := by
  intro C σ τ F H Q hK hτ E hq hx hb
  refine ⟨_, pe_sortVals hc hg hm (pe_var hN hv hdb hcd) hbase hline hse, ?_⟩
  have hl := nil_len E hτ
  have hi := lt_of_get hs0
  have hvw : vw (S ++ Ts) s = some (.dict es) := by
    unfold dv2 at hd0
    split at hd0 <;> cases hd0 <;> rfl
  obtain ⟨u, a1, a2⟩ := E.view (i := i) (by rw [at_left hi]; exact hs0) hvw
  rw [at_left (by omega)] at a1
  obtain ⟨a, kvs, rfl, g1, g2⟩ := a2.dict E.sub
  unfold sortVals at hq hb
  cases hn : intsOf (es.map (·.2)) with
  | none => rw [hn] at hb; exact absurd rfl hb
  | some ns =>
    rw [hn] at hq hb
    simp only at hq hb
    by_cases h64 : ns.length < 64
    · rw [if_pos h64] at hq
      refine ⟨_, a1, a, kvs, ns, rfl, g1, g2.vals hn, h64, fun ys p h1 h2 h3 => hq _ rfl _ F _ ?_⟩
      rw [srtI_of h1 h2]
      exact E.pushOw h3 ⟨_, rfl, RpL.of_ints _⟩
    · rw [if_neg h64] at hb; exact absurd rfl hb
end G
namespace G
open PySem L2
/-! ## a, b, .. = x, y, .. by way of a tuple -/
def okR : Sl → Bool
  | .v _ => true
  | .ow none _ => true
  | _ => false
variable {C : EC} {F H : Hp}
/-- a temporary goes over into a slot -/
theorem Env.toSlot {L : List Sl} {ρ : List (Option V)} {k i : Nat} {R : Sl} {u : V} (E : Env C L ρ F H) (hk : L[k]? = some R) (hu : ρ[k]? = some (some u)) (hR : okR R = true) (hik : i ≠ k) (hi : i < L.length) (ha : L.all (noalk i) = true) : Env C ((L.set k .un).set i R) (ρ.set i (some u)) F H := by
  have wk1 : WL L (L.set k .un) := by
    have : ∀ (L : List Sl) (k : Nat), WL L (L.set k .un) := fun L => by
      induction L with
      | nil => intro k; exact .nil
      | cons s L ih =>
        intro k
        cases k with
        | zero => exact .cons (.un _) (WL.refl L)
        | succ k => exact .cons (.rfl _) (ih k)
    exact this L k
  have ha2 : (L.set k .un).all (noalk i) = true := by
    rw [List.all_eq_true] at ha ⊢
    intro s hs
    rcases List.mem_or_eq_of_mem_set hs with h | h
    · exact ha s h
    · rw [h]; rfl
  have fin : Env C (L.set k .un ++ [R]) (ρ ++ [some u]) F H := by
    unfold okR at hR
    split at hR
    · obtain ⟨x, a, b⟩ := E.va k _ hk
      rw [hu] at a; cases a
      exact (E.wk wk1).pushV b
    · exact E.move hk hu
    · cases hR
  have hR2 : nosc R = true ∧ noal R = true := by
    unfold okR at hR
    split at hR
    · exact ⟨rfl, rfl⟩
    · exact ⟨rfl, rfl⟩
    · cases hR
  exact fin.setv (by simpa using hi) hR2.1 hR2.2 ha2
def putL : List Sl → List Nat → List Sl → List Sl
  | L, i :: is, R :: Rs => putL (L.set i R) is Rs
  | L, _, _ => L
def putV : List (Option V) → List Nat → List V → List (Option V)
  | ρ, i :: is, u :: us => putV (ρ.set i (some u)) is us
  | ρ, _, _ => ρ
theorem Env.puts : ∀ (is : List Nat) (Rs : List Sl) (us : List V) (L T M : List Sl) (ρ τ μ : List (Option V)), is.length = Rs.length → us.length = Rs.length → ρ.length = L.length → τ.length = T.length → μ.length = M.length → Rs.all okR = true → is.all (fun i => decide (i < L.length)) = true → (L ++ T ++ M).all (fun s => is.all (noalk · s)) = true →
    Env C (L ++ T ++ M ++ Rs) (ρ ++ τ ++ μ ++ us.map some) F H → Env C (putL L is Rs ++ T) (putV ρ is us ++ τ) F H
  | [], [], [], L, T, M, ρ, τ, μ, _, _, h1, h2, h3, _, _, _, E => by
    have E' : Env C (L ++ T ++ M) (ρ ++ τ ++ μ) F H := by simpa using E
    exact E'.pre h3
  | i :: is, R :: Rs, u :: us, L, T, M, ρ, τ, μ, e1, e2, h1, h2, h3, hR, hi, ha, E => by
    rw [List.all_cons, Bool.and_eq_true] at hR hi
    have hiL : i < L.length := by simpa using hi.1
    have hk : (L ++ T ++ M ++ (R :: Rs))[(L ++ T ++ M).length]? = some R := by rw [List.getElem?_append_right (Nat.le_refl _), Nat.sub_self]; rfl
    have hkρ : (ρ ++ τ ++ μ ++ (u :: us).map some)[(L ++ T ++ M).length]? = some (some u) := by
      rw [List.getElem?_append_right (by simp [h1, h2, h3]), show (L ++ T ++ M).length - (ρ ++ τ ++ μ).length = 0 by simp [h1, h2, h3]]; rfl
    have hall : (L ++ T ++ M ++ (R :: Rs)).all (noalk i) = true := by
      rw [List.all_append, Bool.and_eq_true]
      refine ⟨?_, ?_⟩
      · rw [List.all_eq_true] at ha ⊢
        intro s hs
        have := ha s hs
        rw [List.all_cons, Bool.and_eq_true] at this
        exact this.1
      · rw [List.all_eq_true]
        intro s hs
        have : okR s = true := by
          rcases List.mem_cons.mp hs with rfl | hs
          · exact hR.1
          · exact List.all_eq_true.mp hR.2 s hs
        unfold okR at this
        split at this
        · rfl
        · rfl
        · cases this
    have E2 := E.toSlot hk hkρ hR.1 (i := i) (by simp; omega) (by simp; omega) hall
    have eL : ((L ++ T ++ M ++ (R :: Rs)).set (L ++ T ++ M).length .un).set i R = (L.set i R) ++ T ++ (M ++ [.un]) ++ Rs := by
      rw [List.set_append_right _ _ (Nat.le_refl _), Nat.sub_self, List.set_append_left _ _ (by simp; omega), List.set_append_left _ _ (by simp; omega), List.set_append_left _ _ hiL]
      simp
    have eρ : (ρ ++ τ ++ μ ++ (u :: us).map some).set i (some u) = (ρ.set i (some u)) ++ τ ++ (μ ++ [some u]) ++ us.map some := by
      rw [List.set_append_left _ _ (by simp; omega), List.set_append_left _ _ (by simp; omega), List.set_append_left _ _ (by omega)]
      simp
    rw [eL, eρ] at E2
    exact Env.puts is Rs us (L.set i R) T (M ++ [.un]) (ρ.set i (some u)) τ (μ ++ [some u]) (by simpa using e1) (by simpa using e2) (by simp [h1]) h2 (by simp [h3]) hR.2 (by simpa using hi.2) (by
      rw [List.all_eq_true] at ha ⊢
      intro s hs
      have key : ∀ s ∈ L ++ T ++ M, is.all (noalk · s) = true := fun s hs => by
        have := ha s hs
        rw [List.all_cons, Bool.and_eq_true] at this
        exact this.2
      have okn : ∀ s, okR s = true ∨ s = .un → is.all (noalk · s) = true := fun s h => by
        rw [List.all_eq_true]; intro j _
        rcases h with h | rfl
        · unfold okR at h
          split at h
          · rfl
          · rfl
          · cases h
        · rfl
      rcases List.mem_append.mp hs with h | h
      · rcases List.mem_append.mp h with h | h
        · rcases List.mem_or_eq_of_mem_set h with h | h
          · exact key s (List.mem_append_left _ (List.mem_append_left _ h))
          · rw [h]; exact okn R (.inl hR.1)
        · exact key s (List.mem_append_left _ (List.mem_append_right _ h))
      · rcases List.mem_append.mp h with h | h
        · exact key s (List.mem_append_right _ h)
        · rw [List.mem_singleton.mp h]; exact okn .un (.inr rfl)) E2
  | [], _ :: _, _, _, _, _, _, _, _, h, _, _, _, _, _, _, _, _ => by simp at h
  | _ :: _, [], _, _, _, _, _, _, _, h, _, _, _, _, _, _, _, _ => by simp at h
  | _, [], _ :: _, _, _, _, _, _, _, _, h, _, _, _, _, _, _, _ => by simp at h
  | _, _ :: _, [], _, _, _, _, _, _, _, h, _, _, _, _, _, _, _ => by simp at h
/-- the targets: names -/
inductive Nms (X : Cx) : List Expr → List Nat → Prop
  | nil : Nms X [] []
  | cons {x : Str} {px : Pos} {i : Nat} {es : List Expr} {is : List Nat} : X.N[i]? = some x → Loc X.env.scope x → (X.fn x = true ∨ X.env.scope.names.lookup x = some .local) → (assignEach (.Name x px :: es) X.env).map (·.2) = assign (.Name x px) X.env :: (assignEach es X.env).map (·.2) → Nms X es is → Nms X (.Name x px :: es) (i :: is)
theorem Nms.pgs {X : Cx} (nd : X.N.Nodup) : ∀ {es : List Expr} {is : List Nat}, Nms X es is → ∃ t, PGs X es t ∧ ∀ (us : List V) (σ : L2.St) (H : Hp) (Q : L2.St → Hp → Prop), us.length = is.length → Q (putV σ is us) H → t us σ H Q
  | _, _, .nil => ⟨_, pgs_nil, fun us σ H Q hl q => by
    cases us with
    | nil => exact ⟨rfl, q⟩
    | cons u us => simp at hl⟩
  | _, _, .cons h1 h2 h3 h4 t => by
    obtain ⟨u, hu, k⟩ := t.pgs nd
    refine ⟨_, pgs_cons (pg_name nd h1 h2 h3) hu h4, fun us σ H Q hl q => ?_⟩
    cases us with
    | nil => simp at hl
    | cons v us => exact ⟨v, us, rfl, k us _ H Q (by simpa using hl) q⟩
section
variable {α Ω : Type} {X : Cx} {w : Wx} {S Ts : List Sl} {m : Res α} {S1 Rs : α → List Sl} {rest : List Stmt} {K : Ω → Out} {pos pt pt2 : Pos} {ts es : List Expr} {kt k2 : Nat}
theorem es_parT (is : List Nat) {mR : α → Res Ω} (h1 : EvA X w es S Ts m S1 Rs) (hn : Nms X ts is) (h3 : ∀ a, EvS X w rest (putL (S1 a) is (Rs a)) Ts (mR a) K) (nd : X.N.Nodup) (hc : X.calm = true) (hlen : ∀ a, (Rs a).length = is.length := by intros; rfl) (hz : is.length ≤ 1000 := by decide)
    (hR : ∀ a, (Rs a).all okR = true := by intros; rfl) (hi : ∀ a, is.all (fun i => decide (i < (S1 a).length)) = true := by intros; rfl) (hal : ∀ a, (S1 a ++ Ts).all (fun s => is.all (noalk · s)) = true := by intros; rfl)
    (han : (assignEach ts X.env).length = is.length := by rfl) (hst : (assignEach ts X.env).findIdx? (·.1) = none := by rfl)
    (hs : swapsWithSole [.Tuple ts kt pt] (.Tuple es k2 pt2) pos.line X.env = pure false := by rfl) (hw : swappedStores [.Tuple ts kt pt] (.Tuple es k2 pt2) X.env = pure none := by rfl) (ha1 : (assignEach [.Tuple ts kt pt] X.env).map (·.2) = [assign (.Tuple ts kt pt) X.env] := by rfl) :
    EvS X w (.Assign [.Tuple ts kt pt] (.Tuple es k2 pt2) pos :: rest) S Ts (m.bind mR) K := by
  intro C σ τ F H D hK hτ E hq hx hb
  obtain ⟨t, ht, k⟩ := hn.pgs nd
  refine ⟨_, pss_cons (ps_asg (pe_tup canA) (pg_tup hc ht han hst) hs hw ha1) canB, ?_⟩
  refine h1 C σ τ F H _ hK hτ E (fun a ha us F1 H1 hl E1 => ?_) (fun x ex => hx x (exc_bind ex) σ) (fun eb => hb (bad_bind eb))
  rw [ok_bind ha] at hq hx hb
  have hul : us.length = is.length := hl.trans (hlen a)
  refine ⟨Nat.le_trans (by omega : us.length ≤ 1000) (by decide), fun p hp => ?_⟩
  refine ⟨p, us, rfl, .inl (.inl upd_same), hul, k us σ _ _ hul ?_⟩
  have E2 : Env C (S1 a ++ Ts ++ [] ++ Rs a) (σ ++ τ ++ [] ++ us.map some) F1 (upd H1 p (.tup us)) := by
    have := E1.ext (H' := upd H1 p (.tup us)) (fun b o e => by
      have : b ≠ p := fun z => by subst z; rw [hp] at e; cases e
      rw [upd_ne this]; exact e)
    simpa using this
  have hσ : σ.length = (S1 a).length := by have := E1.len; simp [hl, hτ] at this; omega
  have E3 := Env.puts is (Rs a) us (S1 a) Ts [] σ τ [] (hlen a).symm hl hσ hτ rfl (hR a) (hi a) (by simpa using hal a) E2
  exact h3 a C _ τ F1 _ D hK hτ E3 hq hx hb
end
end G
namespace G
open PySem L2 PySem.Spec PyProof.Rows
/-! ## the law's own call, where no repr is under way -/
section
variable {P : Program} {w : World} {K : PySem.W.Frag} {mg bm : Str → Option Value} {k : Nat} {lf sa : Addr} {fd : FuncData} {y : Str} {sp : Sp} {st : Shared} {cells : List Value} {zs : List Int}
/-- from a heap in which at most the script is known -/
theorem from_heap (kin : K.In st.heap) (nsm : st.heap.Ns mainGlobals mg) (nsb : st.heap.Ns builtinsNs bm) (boot : ∀ z : Str, z ≠ "__name__" → bm z = bootBuiltins z) (nol : st.heap.NoLimit) (nog : st.gens = #[])
    (at_sa : st.heap.get? sa = some { cls := .type "list", data := .seq cells.toArray }) (room : Room k callerA)
    (Fg : ∀ bs : Heap, K.In bs → bs.Ns mainGlobals mg → FnG P w K mg bs k lf fd [y] sp) (bnd : ∀ (s : Shared) (u : Value), BindsTo s fd ⟨[u], []⟩ [(y, u)])
    (T : Hp) (only : Only T) (sq : SqL K T sa (zs.map V.int)) (okT : HOk P w T st.heap) (just : ∀ b, T b ≠ none → b = sa) (notK : T sa ≠ none → K.lookup sa = none)
    (prom : sp [.ref sa] T (fun v _ => v = .bl true) fun _ _ _ => False) :
    codeAny (model P w) callerA (.call (.ref lf) ⟨[.ref sa], []⟩) (fun r s' => r = .ok (.ret (.bool true)) ∧ OldK st.heap s'.heap ∧ s'.os = st.os ∧ AllBare s'.gens) st := by
  have hid : ∀ {b : Addr} {o : Obj}, st.heap.get? b = some o → T b = none → (hidT st.heap T).get? b = some o := hidT_get
  have free : ∀ b, b ≠ sa → T b = none := fun b hb => by
    cases q : T b with
    | none => rfl
    | some u => exact absurd (just b (by rw [q]; nofun)) hb
  have dictFree : ∀ {b : Addr} {o : Obj} {es : Array DictEntry} {ep : Nat}, st.heap.get? b = some o → o.data = .dict es ep → T b = none := fun {b o es ep} g d => free b fun z => by
    subst z
    rw [at_sa] at g; cases g; cases d
  have keepNs : ∀ {b : Addr} {f : Str → Option Value}, st.heap.Ns b f → (hidT st.heap T).Ns b f := fun {b f} ⟨o, es, ep, g, d, r⟩ => ⟨o, es, ep, hid g (dictFree g d), d, r⟩
  have keepK : K.In (hidT st.heap T) := fun b o g => by
    refine hid (kin b o g) ?_
    by_cases hb : b = sa
    · subst hb
      cases q : T b with
      | none => rfl
      | some u =>
        have := notK (by rw [q]; nofun)
        rw [this] at g; cases g
    · exact free b hb
  have md : Mod K mg (hidT st.heap T) := ⟨keepK, keepNs nsm, ⟨bm, keepNs nsb, boot⟩, by obtain ⟨f, a, b⟩ := nol; exact ⟨f, keepNs a, b⟩⟩
  have start : Env0 P w K mg (hidT st.heap T) callerA [] st T :=
    ⟨rfl, md, fun b o g => of_hidT g, Nat.le_of_eq (hidT_size _ _), trivial, fun b hb => (List.not_mem_nil hb).elim, okT, .of_eq nog⟩
  have run := (Fg _ keepK (keepNs nsm)).run callerA [] st T ⟨[.ref sa], []⟩ [.ref sa] [.ref sa] _ _ rfl room start (bnd st (.ref sa)) (.cons rfl .nil) prom
  refine codeAny_mono run fun res s2 got => ?_
  match res, got with
  | .error e, got =>
    obtain ⟨_, _, _, _, _, _, _, _, _, _, _, _, _, _, _, _, z⟩ := (show L2.CX P w [] T st (fun _ _ _ => False) e s2 from got)
  | .ok .next, got => exact got.elim
  | .ok .brk, got => exact got.elim
  | .ok .cont, got => exact got.elim
  | .ok (.ret u), ⟨v, T2, sameOs, bare2, stay, ok2, rel, isT⟩ =>
    have isT' : v = .bl true := isT
    subst isT'
    have eu : u = Value.bool true := rel
    subst eu
    refine ⟨rfl, OldK.of_keep fun b o g => ?_, sameOs, bare2⟩
    rcases only b with none' | ⟨ob, xs, frz'⟩
    · exact stay.keep b o g none' (fun z => (List.not_mem_nil z).elim) (by simp)
    · obtain ⟨g1, _⟩ := okT b _ frz'
      obtain ⟨g2, _⟩ := ok2 b _ (stay.frzs b ob _ frz')
      rw [g] at g1; cases g1
      exact g2
theorem callG (kin : K.In st.heap) (nsm : st.heap.Ns mainGlobals mg) (nsb : st.heap.Ns builtinsNs bm) (boot : ∀ z : Str, z ≠ "__name__" → bm z = bootBuiltins z) (nol : st.heap.NoLimit) (nog : st.gens = #[])
    (at_sa : st.heap.get? sa = some { cls := .type "list", data := .seq cells.toArray }) (isI : IntsAre cells zs) (short : zs.length ≤ sizeLine) (room : Room k callerA)
    (Fg : ∀ bs : Heap, K.In bs → bs.Ns mainGlobals mg → FnG P w K mg bs k lf fd [y] sp) (bnd : ∀ (s : Shared) (u : Value), BindsTo s fd ⟨[u], []⟩ [(y, u)])
    (prom : ∀ T : Hp, Only T → SqL K T sa (zs.map V.int) → sp [.ref sa] T (fun v _ => v = .bl true) fun _ _ _ => False) :
    codeAny (model P w) callerA (.call (.ref lf) ⟨[.ref sa], []⟩) (fun r s' => r = .ok (.ret (.bool true)) ∧ OldK st.heap s'.heap ∧ s'.os = st.os ∧ AllBare s'.gens) st := by
  have vals := vals_ints isI
  have len := isI.length
  cases own : K.lookup sa with
  | some o =>
    have here := kin sa o own
    rw [at_sa] at here; cases here
    have sq : SqL K (fun _ => none) sa (zs.map V.int) := .inr ⟨_, cells.toArray, _, own, rfl, rfl, rfl, by rw [List.size_toArray, len]; exact short, by simpa using vals⟩
    exact from_heap kin nsm nsb boot nol nog at_sa room Fg bnd (fun _ => none) (fun _ => .inl rfl) sq (fun _ _ z => nomatch z) (fun b z => absurd rfl z) (fun z => absurd rfl z) (prom _ (fun _ => .inl rfl) sq)
  | none =>
    let T : Hp := fun b => if b = sa then some (.frz { cls := .type "list", data := .seq cells.toArray } (.lst (zs.map V.int))) else none
    have Tsa : T sa = some (.frz { cls := .type "list", data := .seq cells.toArray } (.lst (zs.map V.int))) := if_pos rfl
    have Tne : ∀ b, b ≠ sa → T b = none := fun b hb => if_neg hb
    have only : Only T := fun b => by
      by_cases hb : b = sa
      · subst hb; exact .inr ⟨_, _, Tsa⟩
      · exact .inl (Tne b hb)
    have sq : SqL K T sa (zs.map V.int) := .inl (.inr ⟨_, Tsa⟩)
    refine from_heap kin nsm nsb boot nol nog at_sa room Fg bnd T only sq (fun b u z => ?_) (fun b z => ?_) (fun _ => own) (prom T only sq)
    · by_cases hb : b = sa
      · subst hb
        rw [Tsa] at z; cases z
        exact ⟨at_sa, by rw [List.length_map]; exact short, cells, _, vals, at_sa⟩
      · rw [Tne b hb] at z; cases z
    · by_cases hb : b = sa
      · exact hb
      · exact absurd (Tne b hb) z
end
/-- the law, from what its mirror says -/
theorem walkG {l : PySem.W.OpenLaw} {n k : Nat} {q : Program} {loose : List Str} {XP : (Str → Option Value) → Heap → Prop} {YP : World → Heap → Prop} {d : DefRec} {K : Params → PySem.W.Frag} {y : Str} {m : List D → Res D}
    (hn : l.most = some n) (hn2 : n ≤ sizeLine) (hdf : d.params.defaults = []) (room : Room k callerA) (kin : ∀ (w : World) (h : Heap), YP w h → (K w.params).In h)
    (Fg : ∀ (w : World) (mg : Str → Option Value) (fa : Addr) (h : Heap), (K w.params).In h → h.Ns mainGlobals mg → mg d.name = some (.ref fa) →
      ∃ fd : FuncData, (∀ (s : Shared) (u : Value), BindsTo s fd ⟨[u], []⟩ [(y, u)]) ∧ ∀ bs : Heap, (K w.params).In bs → bs.Ns mainGlobals mg → FnG l.prog w (K w.params) mg bs k fa fd [y] (spF (K w.params) mg 1 (fun a : List D => [.sc a]) [] m (fun _ => [.un]) .v))
    (law : ∀ ns : List Int, ns.length ≤ n → m (ns.map .int) = .ok (.bl true)) : PySem.W.WalkO q loose XP YP l.row.toRowW d [] (fun f vs => PySem.call f vs) := by
  refine Att.attach_call hn hdf fun w s0 s1 mg mb fa o pm cd doc a vs ns G0 Y _ _ _ hmg hobj hints hlen nog => ?_
  have kx := kin w _ Y
  obtain ⟨fd, hb, hF⟩ := Fg w mg fa _ kx G0.T.g hmg
  refine callG kx G0.T.g G0.T.b G0.T.builtins G0.T.nolimit nog hobj hints (Nat.le_trans hlen hn2) room hF hb fun T only sq => ?_
  refine ⟨ns.map .int, fun _ => none, rfl, ?_, by rw [law ns hlen]; nofun, fun b hb2 u F' H' E' => ?_, fun x hx => by rw [law ns hlen] at hx; cases hx⟩
  · have rp : RpL (K w.params) (fun _ => none) (ns.map V.int) (ns.map D.int) := RpL.of_ints ns
    refine ⟨rfl, fun _ _ h => ?_, fun i e h => ?_, fun i q e h => ?_, fun i e h => ?_, fun i j h => ?_, fun i ds h => ?_, fun i j p q e q' e' hne h1 h2 _ _ => ?_, fun _ _ h _ => h, ⟨Le.refl _, fun _ _ _ h => nomatch h⟩, fun _ h => absurd rfl h⟩
    · rcases h with h | ⟨_, h⟩ <;> cases h
    · match i, h with
      | 0, h => cases h
      | i + 1, h => cases h
    · match i, h with
      | 0, h => cases h
      | i + 1, h => cases h
    · match i, h with
      | 0, h => cases h
      | i + 1, h => cases h
    · match i, h with
      | 0, h => cases h
      | i + 1, h => cases h
    · match i, h with
      | 0, h =>
        cases h
        refine ⟨a, ns.map V.int, rfl, ?_, rp⟩
        rcases sq with (sq | ⟨ob, sq⟩) | sq
        · rcases only a with z | ⟨_, _, z⟩
          · rw [sq] at z; cases z
          · rw [sq] at z; cases z
        · exact .inl ⟨ob, sq⟩
        · exact .inr fun H' => .inr sq
      | i + 1, h => cases h
    · match i, h1 with
      | 0, h1 => cases h1
      | i + 1, h1 => cases h1
  · rw [law ns hlen] at hb2; cases hb2
    obtain ⟨x, e1, e2⟩ := E'.va 1 (.bl true) rfl
    have : x = u := by
      have : ([some (V.ref a)] ++ [some u] : List (Option V))[1]? = some (some u) := rfl
      have e1' : ([some (V.ref a)] ++ [some u] : List (Option V))[1]? = some (some x) := e1
      rw [this] at e1'; cases e1'; rfl
    subst this
    cases e2; rfl
end G
/-! more rules -/
namespace G
open PySem L2
section
variable {α β γ δ : Type} {X : Cx} {w : Wx} {S Ts : List Sl} {m m1 : Res α} {S' : γ → List Sl} {R : γ → Sl} {S1 : α → List Sl} {R1 : α → Sl} {e1 e2 : Expr} {m2 : α → Res β} {S2 : α → β → List Sl} {R2 : α → β → Sl} {x mn : Str} {p px apos cpos pos : Pos} {id : String}
/-! ### a call that makes a dict -/
theorem ev_cD {f : Value} {e : Expr} {es : List Expr} {Rs : α → List Sl} {op : List D → Res (List (D × D))} (pk : α → List (D × D) → γ) (ds : α → List D)
    (hpe : ∀ {ta : TA}, PA X es ta → PE X e (tCB (rC X f) ta))
    (hop : ∀ {ds : List D} {es : List (D × D)} {F H : Hp} {us : List V}, Le F H → op ds = .ok es → RnL X.K F H us ds → ∀ Q : VK, (∀ p xs, H p = none → RpK X.K F xs es → Q (.ref p) (upd H p (.dK xs))) → rC X f us H Q) (hne : ∀ {ds : List D} {x : Exn}, op ds = .exc x → False)
    (ha : EvA X w es S Ts m S1 Rs) (hv : ∀ a, VwL (S1 a) (Rs a) (ds a)) (hS : ∀ a d, S' (pk a d) = S1 a) (hR : ∀ a d, R (pk a d) = .ow none (.dict d)) :
    EvE X w e S Ts (m.bind fun a => (op (ds a)).bind fun d => .ok (pk a d)) S' R := by
  intro C σ τ F H Q hK hτ E hq hx hb
  refine ⟨_, hpe canA, ?_⟩
  refine ha C σ τ F H _ hK hτ E (fun a ha us F1 H1 hl E1 => ?_) (fun x ex => hx x (exc_bind ex)) (fun eb => hb (bad_bind eb))
  rw [ok_bind ha] at hq hb
  have rs := E1.lasts hl (hv a)
  rw [hK] at rs
  cases eo : op (ds a) with
  | bad => rw [eo] at hb; exact absurd rfl hb
  | exc x => exact (hne eo).elim
  | ok d =>
    rw [eo] at hq
    refine hop E1.sub eo rs _ fun p xs hp hxs => hq (pk a d) rfl (.ref p) F1 _ ?_
    rw [hS, hR]
    exact (E1.pre (by simpa using hl)).pushOw hp ⟨xs, rfl, by rw [hK]; exact hxs⟩
theorem ev_td1 {T : String} {op : List D → Res (List (D × D))} (S' : γ → List Sl) (R : γ → Sl) (pk : α → List (D × D) → γ) (d1 : α → D) (hop : ∀ {ds : List D} {es : List (D × D)} {F H : Hp} {us : List V}, Le F H → op ds = .ok es → RnL X.K F H us ds → ∀ Q : VK, (∀ p xs, H p = none → RpK X.K F xs es → Q (.ref p) (upd H p (.dK xs))) → rC X (.type T) us H Q) (hne : ∀ {ds : List D} {x : Exn}, op ds = .exc x → False)
    (hm : X.mg x = none) (h1 : EvE X w e1 S Ts m S1 R1) (hv : bootBuiltins x = some (.type T) := by decide +kernel) (v1 : ∀ a, vw (S1 a) (R1 a) = some (d1 a) := by intros; rfl) (hS : ∀ a d, S' (pk a d) = S1 a := by intros; rfl) (hR : ∀ a d, R (pk a d) = .ow none (.dict d) := by intros; rfl) (hg : Gl X x := by rfl) (hn : x ≠ "__name__" := by decide) (hdb : (x == ("__debug__" : Str)) = false := by decide)
    (hs : starEach [e1] X.env = [(false, eval e1 X.env)] := by rfl) (hpl : (backTo pos (starEach [] X.env)).any (·.1) = false := by rfl) :
    EvE X w (.Call (.Name x p) [e1] [] pos) S Ts (m.bind fun a => (op [d1 a]).bind fun d => .ok (pk a d)) S' R :=
  ev_cD (f := .type T) pk (fun a => [d1 a]) (fun {ta} ha => pe_callTy callU hg hm hv ha hn hdb hs hpl) hop hne (ea_one h1 hs) (fun a => .cons (v1 a) .nil) hS hR
/-- dict(d): a copy; dict(pairs) -/
def kvOf : List D → Option (List (Key × D))
  | [] => some []
  | .tup [k, v] :: ds => match keyOf k with
    | some k => (kvOf ds).map ((k, v) :: ·)
    | none => none
  | _ :: _ => none
def mergeD (es : List (D × D)) (kvs : List (Key × D)) : List (D × D) := kvs.foldl (fun acc kv => dPut acc kv.1 kv.2) es
def opDict : List D → Res (List (D × D))
  | [.dict es] => .ok es
  | [.list xs] => match kvOf xs with
    | some kvs => .ok (mergeD [] kvs)
    | none => .bad
  | _ => .bad
theorem opDict_ne {ds : List D} {z : Exn} (h : opDict ds = .exc z) : False := by
  unfold opDict at h; split at h
  · cases h
  · split at h <;> cases h
  · cases h
theorem kv_items {K : PySem.W.Frag} {F H : Hp} (hs : Le F H) : ∀ {ds : List D} {vs : List V} {kvs : List (Key × D)}, kvOf ds = some kvs → RpL K F vs ds → ∃ (ps : List Addr) (kv : List (Key × V)), vs = ps.map V.ref ∧ Paired (fun p (q : Key × V) => SqT K H p [kV q.1, q.2]) ps kv ∧
    ∀ {acc : List (Key × V)} {es : List (D × D)}, RpK K F acc es → RpK K F (mergeK acc kv) (mergeD es kvs)
  | [], _, _, h, r => by
    cases h; cases r
    exact ⟨[], [], rfl, .nil, fun r => r⟩
  | d :: ds, _, kvs, h, r => by
    cases r with
    | cons r1 r2 =>
      unfold kvOf at h
      split at h
      · rename_i heq; cases heq
      · rename_i k v ds' heq
        cases heq
        split at h
        · rename_i k' hk
          obtain ⟨kvs', h1, rfl⟩ := Option.map_eq_some_iff.mp h
          obtain ⟨ps, kv, rfl, g1, g2⟩ := kv_items hs h1 r2
          cases r1 with
          | tup c1 c2 =>
            cases c2 with
            | cons c2 c3 =>
              cases c3 with
              | cons c3 c4 =>
                cases c4
                rename_i p u1 u2
                have hu1 : u1 = kV k' := Rn.key (H := H) (.inl c2) hk
                subst hu1
                exact ⟨p :: ps, (k', u2) :: kv, rfl, .cons (hs.st c1) g1, fun r => g2 (r.put c3)⟩
        · cases h
      · cases h
theorem dict_ok {F H : Hp} {us : List V} {ds : List D} {es : List (D × D)} (hc : X.calm = true) (hs : Le F H) (h : opDict ds = .ok es) (r : RnL X.K F H us ds) : ∀ Q : VK, (∀ p xs, H p = none → RpK X.K F xs es → Q (.ref p) (upd H p (.dK xs))) → rC X (.type "dict") us H Q := by
  intro Q q
  unfold opDict at h
  split at h
  · cases h
    obtain ⟨u, rfl, r1⟩ := rnl1 r
    obtain ⟨p, kvs, rfl, a, b⟩ := r1.dict hs
    exact ⟨_, call_dictD, p, kvs, rfl, a, fun l hl => q l kvs hl b⟩
  · split at h
    · rename_i kvs hkv
      cases h
      obtain ⟨u, rfl, r1⟩ := rnl1 r
      obtain ⟨p, vs, rfl, a, b⟩ := r1.list hs
      obtain ⟨ps, kv, rfl, g1, g2⟩ := kv_items hs hkv b
      exact ⟨_, call_dictP hc, p, ps, kv, rfl, .inl a, g1, fun l hl => q l _ hl (g2 .nil)⟩
    · cases h
  · cases h
/-! ### a call that makes a tuple -/
def opTup : List D → Res (List D)
  | [.list xs] => .ok xs
  | [.tup xs] => .ok xs
  | _ => .bad
theorem opTup_ne {ds : List D} {z : Exn} (h : opTup ds = .exc z) : False := by unfold opTup at h; split at h <;> cases h
theorem ev_tup1 (S' : γ → List Sl) (R : γ → Sl) (pk : α → List D → γ) (d1 : α → D)
    (hm : X.mg "tuple" = none) (h1 : EvE X w e1 S Ts m S1 R1) (v1 : ∀ a, vw (S1 a) (R1 a) = some (d1 a) := by intros; rfl) (hS : ∀ a d, S' (pk a d) = S1 a := by intros; rfl) (hR : ∀ a d, R (pk a d) = .v (.tup d) := by intros; rfl) (hg : Gl X "tuple" := by rfl)
    (hs : starEach [e1] X.env = [(false, eval e1 X.env)] := by rfl) (hpl : (backTo pos (starEach [] X.env)).any (·.1) = false := by rfl) :
    EvE X w (.Call (.Name "tuple" p) [e1] [] pos) S Ts (m.bind fun a => (opTup [d1 a]).bind fun d => .ok (pk a d)) S' R := by
  intro C σ τ F H Q hK hτ E hq hx hb
  refine ⟨_, pe_callTy call_tuple_of hg hm (by decide +kernel) (pa_cons can pa_nil hs) (by decide) (by decide) hs hpl, ?_⟩
  refine h1 C σ τ F H _ hK hτ E (fun a ha u F1 H1 E1 => ?_) (fun x ex => hx x (exc_bind ex)) (fun eb => hb (bad_bind eb))
  rw [ok_bind ha] at hq hb
  have rs := E1.last (v1 a)
  have E2 := E1.pop
  cases eo : opTup [d1 a] with
  | bad => rw [eo] at hb; exact absurd rfl hb
  | exc x => exact (opTup_ne eo).elim
  | ok d =>
    rw [eo] at hq
    unfold opTup at eo
    split at eo
    · rename_i xs hd
      cases eo
      have hd' : d1 a = .list d := by simpa using hd
      rw [hd'] at rs
      obtain ⟨q, vs, rfl, g1, g2⟩ := rs.list E1.sub
      refine ⟨q, vs, rfl, .inl ⟨.inl g1, fun l hl => hq (pk a d) rfl (.ref l) (upd F1 l (.tup vs)) _ ?_⟩⟩
      rw [hS, hR]
      exact E2.pushTup hl g2
    · rename_i xs hd
      cases eo
      have hd' : d1 a = .tup d := by simpa using hd
      rw [hd'] at rs
      obtain ⟨q, vs, rfl, g1, g2⟩ := rs.tup E1.sub
      refine ⟨q, vs, rfl, .inr ⟨by rw [← hK]; exact g1, hq (pk a d) rfl (.ref q) F1 _ ?_⟩⟩
      rw [hS, hR]
      rcases rs with rs | ⟨_, _, _, _, z⟩
      · exact E2.pushV rs
      · exact z.elim
    · cases eo
/-! ### methods that only read -/
def tyDm : D → String → Bool
  | .list _, T => T == "list"
  | .str _, T => T == "str"
  | _, _ => false
theorem tyDm_ok {d : D} {T : String} (h : tyDm d T = true) {F H : Hp} {u : V} (hs : Le F H) (r : Rn X.K F H u d) : tyV X.K T u H := by
  cases d <;> simp only [tyDm] at h <;> try (exact absurd h (by decide))
  · rw [r.str]; simpa [tyV] using h
  · obtain ⟨p, xs, rfl, a, b⟩ := r.list hs
    exact .inl ⟨by simpa using h, xs, .inl a⟩
theorem ev_meth {e0 e : Expr} {es : List Expr} {T : String} {m0 : Res α} {S0 : α → List Sl} {R0 : α → Sl} {ma : α → Res β} {Sa : α → β → List Sl} {Rs : α → β → List Sl} {op : D → List D → Res D} (S' : γ → List Sl) (R : γ → Sl) (pk : α → β → D → γ) (d0 : α → D) (d : α → β → D) (ds : α → β → List D)
    (hpe : ∀ {to : TE} {ta : TA}, PE X e0 to → PA X es ta → PE X e (tBM X.K T (rM X id) to ta))
    (hop : ∀ {d : D} {ds : List D} {r : D} {F H : Hp} {u : V} {us : List V}, Le F H → op d ds = .ok r → Rn X.K F H u d → RnL X.K F H us ds → ∃ z, Rp X.K F z r ∧ ∀ Q : VK, Q z H → rM X id u us H Q) (hne : ∀ {d : D} {ds : List D} {x : Exn}, op d ds = .exc x → False)
    (h0 : EvE X w e0 S Ts m0 S0 R0) (ha : ∀ a, EvA X w es (S0 a) (Ts ++ [R0 a]) (ma a) (Sa a) (Rs a)) (v0 : ∀ a, vw (S0 a) (R0 a) = some (d0 a)) (ht : ∀ a, tyDm (d0 a) T = true) (v1 : ∀ a b, vw (Sa a b) (R0 a) = some (d a b)) (hv : ∀ a b, VwL (Sa a b) (Rs a b) (ds a b))
    (hS : ∀ a b r, S' (pk a b r) = Sa a b) (hR : ∀ a b r, R (pk a b r) = .v r) :
    EvE X w e S Ts (m0.bind fun a => (ma a).bind fun b => (op (d a b) (ds a b)).bind fun r => .ok (pk a b r)) S' R := by
  intro C σ τ F H Q hK hτ E hq hx hb
  refine ⟨_, hpe can canA, ?_⟩
  refine h0 C σ τ F H _ hK hτ E (fun a ha0 u F1 H1 E1 => ?_) (fun x ex => hx x (exc_bind ex)) (fun eb => hb (bad_bind eb))
  rw [ok_bind ha0] at hq hb
  have r0 := E1.last (v0 a)
  rw [hK] at r0
  refine ⟨tyDm_ok (ht a) E1.sub r0, ?_⟩
  refine ha a C σ (τ ++ [some u]) F1 H1 _ hK (by simp [hτ]) (by simpa [List.append_assoc] using E1) (fun b hb0 us F2 H2 hl E2 => ?_) (fun x ex => hx x (by rw [ok_bind ha0]; exact exc_bind ex)) (fun eb => hb (bad_bind eb))
  rw [ok_bind hb0] at hq hb
  have E2' : Env C (Sa a b ++ (Ts ++ [R0 a]) ++ Rs a b) ((σ ++ τ ++ [some u]) ++ us.map some) F2 H2 := by simpa [List.append_assoc] using E2
  have rs := E2'.lasts hl (hv a b)
  have E3 := E2'.pre (by simpa using hl)
  have E3' : Env C (Sa a b ++ Ts ++ [R0 a]) (σ ++ τ ++ [some u]) F2 H2 := by simpa [List.append_assoc] using E3
  have r1 := E3'.last (v1 a b)
  rw [hK] at r1 rs
  cases eo : op (d a b) (ds a b) with
  | bad => rw [eo] at hb; exact absurd rfl hb
  | exc x => exact (hne eo).elim
  | ok r =>
    rw [eo] at hq
    obtain ⟨z, rz, k⟩ := hop E2'.sub eo r1 rs
    refine k _ (hq (pk a b r) rfl z F2 H2 ?_)
    rw [hS, hR]
    exact E3'.pop.pushV (by rw [hK]; exact rz)
/-- o.m(e), o a list or a text -/
theorem ev_meth1 {e0 : Expr} {T : String} {m0 : Res α} {S0 : α → List Sl} {R0 : α → Sl} {ma : α → Res β} {Sa : α → β → List Sl} {Ra : α → β → Sl} {op : D → List D → Res D} (pa : PlainAttrs T) (slot : Slot T mn id) (hty : typeOf (.builtin id) = pure (.type "method_descriptor"))
    (hop : ∀ {d : D} {ds : List D} {r : D} {F H : Hp} {u : V} {us : List V}, Le F H → op d ds = .ok r → Rn X.K F H u d → RnL X.K F H us ds → ∃ z, Rp X.K F z r ∧ ∀ Q : VK, Q z H → rM X id u us H Q) (hne : ∀ {d : D} {ds : List D} {x : Exn}, op d ds = .exc x → False)
    (S' : γ → List Sl) (R : γ → Sl) (pk : α → β → D → γ) (d0 : α → D) (d : α → β → D) (d1 : α → β → D)
    (h0 : EvE X w e0 S Ts m0 S0 R0) (ha : ∀ a, EvE X w e1 (S0 a) (Ts ++ [R0 a]) (ma a) (Sa a) (Ra a)) (v0 : ∀ a, vw (S0 a) (R0 a) = some (d0 a) := by intros; rfl) (ht : ∀ a, tyDm (d0 a) T = true := by intros; rfl) (v1 : ∀ a b, vw (Sa a b) (R0 a) = some (d a b) := by intros; rfl) (hv : ∀ a b, vw (Sa a b) (Ra a b) = some (d1 a b) := by intros; rfl)
    (hS : ∀ a b r, S' (pk a b r) = Sa a b := by intros; rfl) (hR : ∀ a b r, R (pk a b r) = .v r := by intros; rfl)
    (hbase : attributeBase e0 mn X.env (eval e0 X.env) = eval e0 X.env := by rfl)
    (hfew : ((backTo cpos (starEach [e1] X.env)).all (fun x => !x.1) && (backToKw cpos (keywordEach [] X.env)).all (fun x => x.1.isSome) && decide (([e1] : List Expr).length + ([] : List Keyword).length + (if ([] : List Keyword).isEmpty then 0 else 1) < 30)) = true := by rfl)
    (hline : (apos.endLine == cpos.line) = true := by rfl) (hs : starEach [e1] X.env = [(false, eval e1 X.env)] := by rfl) (hplain : (backTo cpos (starEach [] X.env)).any (·.1) = false := by rfl) :
    EvE X w (.Call (.Attribute e0 mn apos) [e1] [] cpos) S Ts (m0.bind fun a => (ma a).bind fun b => (op (d a b) [d1 a b]).bind fun r => .ok (pk a b r)) S' R :=
  ev_meth S' R pk d0 d (fun a b => [d1 a b]) (fun ho hes => pe_bm pa slot hty mtU ho hes hbase hfew hline hs hplain) hop hne h0 (fun a => ea_one (ha a) hs) v0 ht v1 (fun a b => .cons (hv a b) .nil) hS hR
/-- xs.index(x) -/
def idxF (x : D) : List D → Option Nat
  | [] => none
  | y :: ys => if eqF y x then some 0 else (idxF x ys).map (· + 1)
def opIndex : D → List D → Res D
  | .list xs, [x] => if flatD x && xs.all flatD then match idxF x xs with
    | some j => .ok (.int (j : Int))
    | none => .bad else .bad
  | _, _ => .bad
theorem idxF_spec (x : D) : ∀ (xs : List D) (j : Nat), idxF x xs = some j → (∃ z, xs[j]? = some z ∧ eqF z x = true) ∧ ∀ (m : Nat) z, m < j → xs[m]? = some z → eqF z x = false
  | [], _, h => by cases h
  | y :: ys, j, h => by
    unfold idxF at h
    by_cases hy : eqF y x = true
    · rw [if_pos hy] at h; cases h
      exact ⟨⟨y, rfl, hy⟩, fun m z hm => absurd hm (Nat.not_lt_zero _)⟩
    · rw [if_neg hy] at h
      obtain ⟨i, hi, rfl⟩ := Option.map_eq_some_iff.mp h
      obtain ⟨⟨z, h1, h2⟩, h3⟩ := idxF_spec x ys i hi
      refine ⟨⟨z, by simpa using h1, h2⟩, fun m z' hm hz' => ?_⟩
      match m with
      | 0 => simp at hz'; subst hz'; simpa using hy
      | m + 1 => exact h3 m z' (by omega) (by simpa using hz')
theorem opIndex_ne {d : D} {ds : List D} {z : Exn} (h : opIndex d ds = .exc z) : False := by
  unfold opIndex at h; split at h
  · split at h
    · split at h <;> cases h
    · cases h
  · cases h
theorem index_ok {d : D} {ds : List D} {r : D} {F H : Hp} {u : V} {us : List V} (hs : Le F H) (h : opIndex d ds = .ok r) (r1 : Rn X.K F H u d) (r2 : RnL X.K F H us ds) : ∃ z, Rp X.K F z r ∧ ∀ Q : VK, Q z H → rM X "list.index" u us H Q := by
  unfold opIndex at h
  split at h
  · rename_i xs x
    split at h
    · rename_i hf
      have hf' := Bool.and_eq_true_iff.mp hf
      split at h
      · rename_i j hj
        cases h
        obtain ⟨v, rfl, rv⟩ := rnl1 r2
        obtain ⟨p, vs, rfl, a, b⟩ := r1.list hs
        obtain ⟨⟨z, h1, h2⟩, h3⟩ := idxF_spec x xs j hj
        obtain ⟨f1, f2⟩ := flat_rp (rv.flat hf'.1) hf'.1
        have fl : ∀ y ∈ xs, flatD y = true := List.all_eq_true.mp hf'.2
        obtain ⟨vz, g1, g2⟩ := b.get h1
        refine ⟨.int (j : Int), .int _, fun Q q => ⟨_, mt_index, p, vs, v, j, vz, rfl, rfl, .inl a, f1, (inF_ok (rv.flat hf'.1) hf'.1 b hf'.2).1, g1, by rw [f2 _ _ g2 (fl z (List.mem_of_getElem? h1))]; exact h2, fun k z' hk hz' => ?_, q⟩⟩
        obtain ⟨dz, k1, k2⟩ := b.at hz'
        rw [f2 _ _ k2 (fl dz (List.mem_of_getElem? k1))]
        exact h3 k dz hk k1
      · cases h
    · cases h
  · cases h
/-! ### max and min of a list -/
def opMax1 : List D → Res D
  | [.list xs] => match intsOf xs with
    | some (n :: ns) => .ok (.int (ns.foldl max n))
    | _ => .bad
  | _ => .bad
def opMin1 : List D → Res D
  | [.list xs] => match intsOf xs with
    | some (n :: ns) => .ok (.int (ns.foldl min n))
    | _ => .bad
  | _ => .bad
theorem max1_ne {ds : List D} {z : Exn} (h : opMax1 ds = .exc z) : False := by unfold opMax1 at h; split at h <;> (first | cases h | (split at h <;> cases h))
theorem min1_ne {ds : List D} {z : Exn} (h : opMin1 ds = .exc z) : False := by unfold opMin1 at h; split at h <;> (first | cases h | (split at h <;> cases h))
theorem foldl_max : ∀ (ns : List Int) (n : Int), (ns.foldl max n ∈ n :: ns) ∧ ∀ y ∈ n :: ns, y ≤ ns.foldl max n
  | [], n => by simp
  | k :: ns, n => by
    obtain ⟨h1, h2⟩ := foldl_max ns (max n k)
    rw [List.foldl_cons]
    refine ⟨?_, fun y hy => ?_⟩
    · rcases List.mem_cons.mp h1 with e | e
      · rw [e]; by_cases q : n ≤ k
        · simp [Int.max_eq_right q]
        · simp [Int.max_eq_left (by omega : k ≤ n)]
      · simp [e]
    · have h3 := h2 (max n k) (by simp)
      rcases List.mem_cons.mp hy with rfl | hy
      · omega
      · rcases List.mem_cons.mp hy with rfl | hy
        · omega
        · exact h2 y (by simp [hy])
theorem foldl_min : ∀ (ns : List Int) (n : Int), (ns.foldl min n ∈ n :: ns) ∧ ∀ y ∈ n :: ns, ns.foldl min n ≤ y
  | [], n => by simp
  | k :: ns, n => by
    obtain ⟨h1, h2⟩ := foldl_min ns (min n k)
    rw [List.foldl_cons]
    refine ⟨?_, fun y hy => ?_⟩
    · rcases List.mem_cons.mp h1 with e | e
      · rw [e]; by_cases q : n ≤ k
        · simp [Int.min_eq_left q]
        · simp [Int.min_eq_right (by omega : k ≤ n)]
      · simp [e]
    · have h3 := h2 (min n k) (by simp)
      rcases List.mem_cons.mp hy with rfl | hy
      · omega
      · rcases List.mem_cons.mp hy with rfl | hy
        · omega
        · exact h2 y (by simp [hy])
theorem max1_ok {F H : Hp} {us : List V} {ds : List D} {d : D} (hc : X.calm = true) (hs : Le F H) (h : opMax1 ds = .ok d) (r : RnL X.K F H us ds) : ∃ z, Rp X.K F z d ∧ ∀ Q : VK, Q z H → rC X (.builtin "max") us H Q := by
  unfold opMax1 at h
  split at h
  · rename_i xs
    split at h
    · rename_i n ns hn
      cases h
      obtain ⟨u, rfl, r1⟩ := rnl1 r
      obtain ⟨p, vs, rfl, a, b⟩ := r1.list hs
      cases intsOf_ok hn
      cases b.ints
      refine ⟨_, .int _, fun Q q => ⟨_, cr_max hc, p, n :: ns, rfl, .inl a, by simp, fun m h1 h2 => ?_⟩⟩
      obtain ⟨g1, g2⟩ := foldl_max ns n
      have : m = ns.foldl max n := Int.le_antisymm (g2 m h1) (h2 _ g1)
      rw [this]; exact q
    · cases h
  · cases h
theorem min1_ok {F H : Hp} {us : List V} {ds : List D} {d : D} (hc : X.calm = true) (hs : Le F H) (h : opMin1 ds = .ok d) (r : RnL X.K F H us ds) : ∃ z, Rp X.K F z d ∧ ∀ Q : VK, Q z H → rC X (.builtin "min") us H Q := by
  unfold opMin1 at h
  split at h
  · rename_i xs
    split at h
    · rename_i n ns hn
      cases h
      obtain ⟨u, rfl, r1⟩ := rnl1 r
      obtain ⟨p, vs, rfl, a, b⟩ := r1.list hs
      cases intsOf_ok hn
      cases b.ints
      refine ⟨_, .int _, fun Q q => ⟨_, cr_min hc, p, n :: ns, rfl, .inl a, by simp, fun m h1 h2 => ?_⟩⟩
      obtain ⟨g1, g2⟩ := foldl_min ns n
      have : m = ns.foldl min n := Int.le_antisymm (h2 _ g1) (g2 m h1)
      rw [this]; exact q
    · cases h
  · cases h
end
end G
namespace G
open PySem L2
section
variable {α β γ δ : Type} {X : Cx} {w : Wx} {S Ts : List Sl} {m m1 : Res α} {S' : γ → List Sl} {R : γ → Sl} {S1 : α → List Sl} {R1 : α → Sl} {e1 e2 : Expr} {m2 : α → Res β} {S2 : α → β → List Sl} {R2 : α → β → Sl} {x mn : Str} {p px apos cpos pos : Pos} {id : String}
/-! ### [..] * n -/
def repD (d : List D) (k : Int) : List D := (List.replicate k.toNat d).flatten
theorem RpL.rep {K : PySem.W.Frag} {F : Hp} {xs : List V} {ds : List D} (h : RpL K F xs ds) : ∀ n, RpL K F (List.replicate n xs).flatten (List.replicate n ds).flatten
  | 0 => .nil
  | n + 1 => by
    rw [List.replicate_succ, List.replicate_succ, List.flatten_cons, List.flatten_cons]
    exact h.app (RpL.rep h n)
theorem ev_rep (S' : γ → List Sl) (R : γ → Sl) (pk : α → β → List D → γ) (d1 : α → List D) (d2 : α → β → D) (h1 : EvE X w e1 S Ts m1 S1 R1) (h2 : ∀ a, EvE X w e2 (S1 a) (Ts ++ [R1 a]) (m2 a) (S2 a) (R2 a))
    (v1 : ∀ a, R1 a = .ow none (.list (d1 a)) := by intros; rfl) (v2 : ∀ a b, vw (S2 a b) (R2 a b) = some (d2 a b) := by intros; rfl) (hS : ∀ a b d, S' (pk a b d) = S2 a b := by intros; rfl) (hR : ∀ a b d, R (pk a b d) = .ow none (.list d) := by intros; rfl) :
    EvE X w (.BinOp e1 .Mult e2 pos) S Ts (m1.bind fun a => (m2 a).bind fun b => (intD (d2 a b)).bind fun k => if inR k && decide ((d1 a).length * k.toNat ≤ sizeLine) then .ok (pk a b (repD (d1 a) k)) else .bad) S' R := by
  intro C σ τ F H Q hK hτ E hq hx hb
  refine ⟨_, pe_op op_rep can can, ?_⟩
  refine ev2 _ h1 h2 hK hτ E _ (fun a b ha hb2 u v F' H' E' => ?_) hx hb
  rw [ok_bind ha, ok_bind hb2] at hq hx hb
  have r2 := Env.last (T := Ts ++ [R1 a]) (ρ := σ ++ τ ++ [some u]) (by rw [← List.append_assoc]; exact E') (v2 a b)
  generalize d2 a b = dd at r2 hq hb
  cases dd <;> simp only [intD] at hq hb <;> try (exact absurd rfl hb)
  rename_i k
  rw [Res.bind_ok] at hq hb
  have hv := r2.int
  subst hv
  have E1 := E'.pop
  have hpos : (S2 a b ++ Ts ++ [R1 a])[(S2 a b ++ Ts).length]? = some (R1 a) := at_last
  rw [v1] at hpos
  rw [v1] at E1
  obtain ⟨p, o, a1, a2, a3, a4, _⟩ := E1.ow _ _ _ (by rw [← v1]; rw [v1]; exact hpos)
  have hlen : (σ ++ τ).length = (S2 a b ++ Ts).length := by have := E1.len; simp at this ⊢; omega
  rw [← hlen, at_last] at a1
  cases a1
  obtain ⟨xs, rfl, b1⟩ := a4
  by_cases hz : (inR k && decide ((d1 a).length * k.toNat ≤ sizeLine)) = true
  · rw [if_pos hz] at hq
    have hz' := Bool.and_eq_true_iff.mp hz
    have hi := inR_ok hz'.1
    refine ⟨p, k, xs, rfl, rfl, a2, by omega, by omega, by rw [b1.len]; exact of_decide_eq_true hz'.2, fun r hr => hq (pk a b (repD (d1 a) k)) rfl (.ref r) F' _ ?_⟩
    rw [hS, hR]
    exact E1.pop.pushOw hr ⟨_, rfl, b1.rep _⟩
  · rw [if_neg hz] at hb; exact absurd rfl hb
/-! ### xs[::-1] -/
theorem ev_rev {k : Nat} {p1 p2 p3 : Pos} (S' : γ → List Sl) (R : γ → Sl) (pk : α → List D → γ) (d1 : α → List D) (h1 : EvE X w e1 S Ts m1 S1 R1) (v1 : ∀ a, vq (S1 a) (R1 a) = some (d1 a) := by intros; rfl)
    (hS : ∀ a d, S' (pk a d) = S1 a := by intros; rfl) (hR : ∀ a d, R (pk a d) = .ow none (.list d) := by intros; rfl) :
    EvE X w (.Subscript e1 (.Slice none none (some (.UnaryOp .USub (.Constant (.int 1) k p1) p2)) p3) pos) S Ts (m1.bind fun a => .ok (pk a (d1 a).reverse)) S' R := by
  intro C σ τ F H Q hK hτ E hq hx hb
  refine ⟨_, pe_revL can, ?_⟩
  refine h1 C σ τ F H _ hK hτ E (fun a ha u F1 H1 E1 => ?_) (fun x ex => hx x (exc_bind ex)) (fun eb => hb (bad_bind eb))
  rw [ok_bind ha] at hq
  obtain ⟨q, xs, rfl, h2, h3⟩ := vq_list E1 (v1 a)
  rw [hK] at h2
  refine ⟨q, xs, rfl, h2, fun r hr => hq _ rfl (.ref r) F1 _ ?_⟩
  rw [hS, hR]
  exact E1.pop.pushOw hr ⟨_, rfl, h3.rev⟩
/-! ### list(range(..)) -/
theorem rg_rp {K : PySem.W.Frag} {F : Hp} (a b : Int) : RpL K F (rgV a b) (rngD a b) := by
  unfold rgV rngD
  generalize List.range (b - a).toNat = l
  induction l with
  | nil => exact .nil
  | cons n l ih => exact .cons (.int _) ih
theorem ev_lrg1 {p2 pos2 : Pos} (S' : γ → List Sl) (R : γ → Sl) (pk : α → List D → γ) (d1 : α → D) (hc : X.calm = true) (hm : X.mg "list" = none) (hm2 : X.mg "range" = none) (h1 : EvE X w e1 S Ts m1 S1 R1) (v1 : ∀ a, vw (S1 a) (R1 a) = some (d1 a) := by intros; rfl)
    (hS : ∀ a d, S' (pk a d) = S1 a := by intros; rfl) (hR : ∀ a d, R (pk a d) = .ow none (.list d) := by intros; rfl) (hg : Gl X "list" := by rfl) (hg2 : Gl X "range" := by rfl)
    (hs : starEach [e1] X.env = (false, eval e1 X.env) :: starEach [] X.env := by rfl) (hs2 : starEach [.Call (.Name "range" p2) [e1] [] pos2] X.env = (false, eval (.Call (.Name "range" p2) [e1] [] pos2) X.env) :: starEach [] X.env := by rfl) :
    EvE X w (.Call (.Name "list" p) [.Call (.Name "range" p2) [e1] [] pos2] [] pos) S Ts (m1.bind fun a => (intD (d1 a)).bind fun i => if inR i && decide (i ≤ 16777216) then .ok (pk a (rngD 0 i)) else .bad) S' R := by
  intro C σ τ F H Q hK hτ E hq hx hb
  refine ⟨_, pe_listRg hc hg hm (prg_1 hg2 hm2 can hs) hs2, ?_⟩
  refine h1 C σ τ F H _ hK hτ E (fun a ha u F1 H1 E1 => ?_) (fun x ex => hx x (exc_bind ex)) (fun eb => hb (bad_bind eb))
  rw [ok_bind ha] at hq hb
  have r1 := E1.last (v1 a)
  generalize d1 a = dd at r1 hq hb
  cases dd <;> simp only [intD] at hq hb <;> try (exact absurd rfl hb)
  rename_i i
  rw [Res.bind_ok] at hq hb
  refine ⟨i, r1.int, ?_⟩
  by_cases hz : (inR i && decide (i ≤ 16777216)) = true
  · rw [if_pos hz] at hq
    have hz' := Bool.and_eq_true_iff.mp hz
    have hi := inR_ok hz'.1
    have hi2 := of_decide_eq_true hz'.2
    refine ⟨⟨by omega, by omega, by omega, by omega, by omega⟩, fun r hr => hq _ rfl (.ref r) F1 _ ?_⟩
    rw [hS, hR]
    exact E1.pop.pushOw hr ⟨_, rfl, rg_rp _ _⟩
  · rw [if_neg hz] at hb; exact absurd rfl hb
theorem ev_lrg2 {p2 pos2 : Pos} (S' : γ → List Sl) (R : γ → Sl) (pk : α → β → List D → γ) (d1 d2 : α → β → D) (hc : X.calm = true) (hm : X.mg "list" = none) (hm2 : X.mg "range" = none) (h1 : EvE X w e1 S Ts m1 S1 R1) (h2 : ∀ a, EvE X w e2 (S1 a) (Ts ++ [R1 a]) (m2 a) (S2 a) (R2 a)) (v1 : ∀ a b, vw (S2 a b) (R1 a) = some (d1 a b) := by intros; rfl) (v2 : ∀ a b, vw (S2 a b) (R2 a b) = some (d2 a b) := by intros; rfl)
    (hS : ∀ a b d, S' (pk a b d) = S2 a b := by intros; rfl) (hR : ∀ a b d, R (pk a b d) = .ow none (.list d) := by intros; rfl) (hg : Gl X "list" := by rfl) (hg2 : Gl X "range" := by rfl)
    (hs : starEach [e1, e2] X.env = (false, eval e1 X.env) :: starEach [e2] X.env := by rfl) (hs1 : starEach [e2] X.env = (false, eval e2 X.env) :: starEach [] X.env := by rfl) (hpl : (backTo pos2 (starEach [e2] X.env)).any (·.1) = false := by rfl) (hs2 : starEach [.Call (.Name "range" p2) [e1, e2] [] pos2] X.env = (false, eval (.Call (.Name "range" p2) [e1, e2] [] pos2) X.env) :: starEach [] X.env := by rfl) :
    EvE X w (.Call (.Name "list" p) [.Call (.Name "range" p2) [e1, e2] [] pos2] [] pos) S Ts (m1.bind fun a => (m2 a).bind fun b => (intD (d1 a b)).bind fun i => (intD (d2 a b)).bind fun j => if inR i && inR j && decide ((j - i).toNat ≤ 16777216) then .ok (pk a b (rngD i j)) else .bad) S' R := by
  intro C σ τ F H Q hK hτ E hq hx hb
  refine ⟨_, pe_listRg hc hg hm (prg_2 hg2 hm2 can can hs hs1 hpl) hs2, ?_⟩
  refine ev2 _ h1 h2 hK hτ E _ (fun a b ha hb2 u v F1 H1 E1 => ?_) hx hb
  rw [ok_bind ha, ok_bind hb2] at hq hx hb
  have r1 := E1.last2 (v1 a b)
  have r2 := Env.last (T := Ts ++ [R1 a]) (ρ := σ ++ τ ++ [some u]) (by rw [← List.append_assoc]; exact E1) (v2 a b)
  generalize d1 a b = dd at r1 hq hb
  cases dd <;> simp only [intD] at hq hb <;> try (exact absurd rfl hb)
  rename_i i
  rw [Res.bind_ok] at hq hb
  generalize d2 a b = dd at r2 hq hb
  cases dd <;> simp only at hq hb <;> try (exact absurd rfl hb)
  rename_i j
  rw [Res.bind_ok] at hq hb
  refine ⟨i, j, r1.int, r2.int, ?_⟩
  by_cases hz : (inR i && inR j && decide ((j - i).toNat ≤ 16777216)) = true
  · rw [if_pos hz] at hq
    have hz' := Bool.and_eq_true_iff.mp hz
    have hz2 := Bool.and_eq_true_iff.mp hz'.1
    have hi := inR_ok hz2.1
    have hj := inR_ok hz2.2
    have hi2 := of_decide_eq_true hz'.2
    refine ⟨⟨by omega, by omega, by omega, by omega, by omega⟩, fun r hr => hq _ rfl (.ref r) F1 _ ?_⟩
    rw [hS, hR]
    exact E1.pop.pop.pushOw hr ⟨_, rfl, rg_rp _ _⟩
  · rw [if_neg hz] at hb; exact absurd rfl hb
/-! ### new tuples, all at once -/
def adoptF (F H : Hp) (ts : List Addr) : Hp := fun a => if a ∈ ts then H a else F a
theorem adoptF_le {F H : Hp} {ts : List Addr} (h : ∀ t ∈ ts, F t = none) : Le F (adoptF F H ts) := fun a u r => by
  have : a ∉ ts := fun e => Rd.ne_none r (h a e)
  unfold Rd adoptF at *
  rwa [if_neg this]
theorem Env.adopt {C : EC} {L : List Sl} {ρ : List (Option V)} {F H : Hp} {ts : List Addr} (E : Env C L ρ F H) (h : ∀ t ∈ ts, F t = none ∧ (C.H0 t = none ∨ t ∈ C.io) ∧ ∃ xs, H t = some (.tup xs)) : Env C L ρ (adoptF F H ts) H := by
  have hle : Le F (adoptF F H ts) := adoptF_le fun t ht => (h t ht).1
  refine ⟨E.len, fun a u r => ?_, fun i d e => ?_, fun i q d e => ?_, fun i d e => ?_, E.al, fun i ds e => ?_, E.apart, E.hold, ⟨E.gg.1.trans hle, fun b o u hb => ?_⟩, fun b hb => ?_⟩
  · by_cases ha : a ∈ ts
    · unfold Rd adoptF at *
      rwa [if_pos ha] at r
    · have : Rd F a u := by unfold Rd adoptF at *; rwa [if_neg ha] at r
      exact E.sub a u this
  · obtain ⟨x, a, b⟩ := E.va i d e
    exact ⟨x, a, Rp.mono hle _ _ b⟩
  · obtain ⟨p, o, a, b, c, f, g⟩ := E.ow i q d e
    have hp : p ∉ ts := fun z => by
      obtain ⟨_, _, xs, hx⟩ := h p z
      rw [hx] at b; cases b
      exact f.mut.elim
    exact ⟨p, o, a, b, by unfold adoptF; rw [if_neg hp]; exact c, f.mono hle, g⟩
  · obtain ⟨x, a, b⟩ := E.rd i d e
    refine ⟨x, a, b.imp (Rp.mono hle _ _) ?_⟩
    rintro ⟨p, o, e1, e2, e3, e4⟩
    exact ⟨p, o, e1, e2, e3.mono hle, e4⟩
  · obtain ⟨p, xs, a, b, c⟩ := E.sc i ds e
    exact ⟨p, xs, a, b, RpL.mono hle _ _ c⟩
  · unfold adoptF at hb
    split at hb
    · rename_i hin
      obtain ⟨_, _, xs, hx⟩ := h b hin
      rw [hx] at hb; cases hb
    · exact E.gg.2 b o u hb
  · unfold adoptF at hb
    split at hb
    · rename_i hin
      exact .inr (h b hin).2.1
    · exact E.gn b hb
theorem adopt_items {K : PySem.W.Frag} {F H : Hp} {ts0 : List Addr} (hle : Le F (adoptF F H ts0)) : ∀ {ts : List Addr} {qs : List (Key × V)} {es : List (D × D)}, Paired (fun (t : Addr) (q : Key × V) => H t = some (.tup [kV q.1, q.2])) ts qs → (∀ t ∈ ts, t ∈ ts0) → RpK K F qs es →
    RpL K (adoptF F H ts0) (ts.map V.ref) (es.map fun e => .tup [e.1, e.2])
  | _, _, _, .nil, _, .nil => .nil
  | t :: ts, (k, v) :: qs, _, .cons h hp, hin, .cons r1 r2 => by
    refine .cons (.tup (.inl (.inl ?_)) (.cons (Rp.kD k) (.cons (Rp.mono hle _ _ r1) .nil))) (adopt_items hle hp (fun z hz => hin z (by simp [hz])) r2)
    unfold adoptF
    rw [if_pos (hin t (by simp))]
    exact h
/-- list(d.items()), d an owned dict by its name -/
theorem ev_listItems {q : Option Addr} {es : List (D × D)} (i : Nat) (hc : X.calm = true) (hm : X.mg "list" = none) (hs0 : S[i]? = some (.ow q (.dict es)) := by rfl) (hg : Gl X "list" := by rfl) (hN : X.N[i]? = some x := by rfl)
    (hv : Vis X.env.scope x := by first | exact Or.inl rfl | exact Or.inr (Or.inl rfl) | exact Or.inr (Or.inr rfl)) (hdb : (x == ("__debug__" : Str)) = false := by decide) (hcd : (x == ("__classdict__" : Str)) = false := by decide)
    (hbase : attributeBase (.Name x px) "items" X.env (eval (.Name x px) X.env) = eval (.Name x px) X.env := by rfl) (hline : (apos.endLine == cpos.line) = true := by rfl)
    (hs : starEach [.Call (.Attribute (.Name x px) "items" apos) [] [] cpos] X.env = (false, eval (.Call (.Attribute (.Name x px) "items" apos) [] [] cpos) X.env) :: starEach [] X.env := by rfl) :
    EvE X w (.Call (.Name "list" p) [.Call (.Attribute (.Name x px) "items" apos) [] [] cpos] [] pos) S Ts (.ok (itemsD es)) (fun _ => S) (fun r => .ow none (.list r)) := by
  intro C σ τ F H Q hK hτ E hq hx hb
  refine ⟨_, LiI.pe_listItems hc (pe_var hN hv hdb hcd) hg hm (by decide +kernel) hbase hline hs, ?_⟩
  have hl := nil_len E hτ
  have hi := lt_of_get hs0
  obtain ⟨a, o, a1, a2, a3, a4, _⟩ := E.ow i _ _ (by rw [at_left hi]; exact hs0)
  rw [at_left (by omega)] at a1
  obtain ⟨kvs, rfl, b1⟩ := a4
  refine ⟨.ref a, a1, a, kvs, rfl, a2, fun H' r ts h1 h2 h3 h4 h5 h6 => ?_⟩
  have hH : H' = upd (fun b => if b = r then none else H' b) r (.lst (ts.map V.ref)) := by
    funext b
    by_cases hb : b = r
    · subst hb; rw [upd_same]; exact h5
    · rw [upd_ne hb, if_neg hb]
  generalize hH2 : (fun b => if b = r then none else H' b) = H2 at hH
  have g1 : ∀ b o, H b = some o → H2 b = some o := fun b o hbo => by
    rw [← hH2]
    have : b ≠ r := fun e => by subst e; rw [h2] at hbo; cases hbo
    simp only [if_neg this]; exact h1 b o hbo
  have g2 : ∀ t ∈ ts, H2 t = H' t := fun t ht => by
    rw [← hH2]
    have : t ≠ r := fun e => h4 (e ▸ ht)
    simp only [if_neg this]
  have h6' : Paired (fun (t : Addr) (q : Key × V) => H2 t = some (.tup [kV q.1, q.2])) ts kvs := by
    have : ∀ {ss : List Addr} {qs : List (Key × V)}, (∀ t ∈ ss, t ∈ ts) → Paired (fun (t : Addr) (q : Key × V) => H' t = some (.tup [kV q.1, q.2])) ss qs → Paired (fun (t : Addr) (q : Key × V) => H2 t = some (.tup [kV q.1, q.2])) ss qs := fun {ss qs} hin h => by
      induction h with
      | nil => exact .nil
      | cons h _ ih => exact .cons (by rw [g2 _ (hin _ (by simp))]; exact h) (ih fun t ht => hin t (by simp [ht]))
    exact this (fun t ht => ht) h6
  have g3 : H2 r = none := by rw [← hH2]; simp
  have E1 := E.ext g1
  have fr : ∀ t, H t = none → F t = none := fun t ht => by
    cases hF : F t with
    | none => rfl
    | some u => exact absurd ht (Rd.ne_none (E.sub t u (.inl hF)))
  have hts : ∀ t ∈ ts, F t = none ∧ (C.H0 t = none ∨ t ∈ C.io) ∧ ∃ xs, H2 t = some (.tup xs) := fun t ht => by
    refine ⟨fr t (h3 t ht), ?_, ?_⟩
    · by_cases hio : t ∈ C.io
      · exact .inr hio
      · cases hH : C.H0 t with
        | none => exact .inl rfl
        | some u => have := E.hold t u hH hio; rw [h3 t ht] at this; cases this
    · have : ∀ {ts : List Addr} {qs : List (Key × V)}, Paired (fun (t : Addr) (q : Key × V) => H2 t = some (.tup [kV q.1, q.2])) ts qs → ∀ t ∈ ts, ∃ xs, H2 t = some (.tup xs) := fun {ts qs} h => by
        induction h with
        | nil => intro t ht; cases ht
        | cons h _ ih =>
          intro t ht
          rcases List.mem_cons.mp ht with rfl | ht
          · exact ⟨_, h⟩
          · exact ih t ht
      exact this h6' t ht
  have E2 := E1.adopt hts
  have hle : Le F (adoptF F H2 ts) := adoptF_le fun t ht => (hts t ht).1
  have hr := adopt_items (K := C.K) hle h6' (fun t ht => ht) b1
  refine hq _ rfl (.ref r) (adoptF F H2 ts) H' ?_
  rw [hH]
  exact E2.pushOw g3 ⟨_, rfl, hr⟩
end
end G
namespace G
open PySem L2
section
variable {α β γ δ : Type} {X : Cx} {w : Wx} {S Ts : List Sl} {m m1 : Res α} {S' : γ → List Sl} {R : γ → Sl} {S1 : α → List Sl} {R1 : α → Sl} {e1 e2 : Expr} {m2 : α → Res β} {S2 : α → β → List Sl} {R2 : α → β → Sl} {x mn : Str} {p px apos cpos pos : Pos} {id : String}
/-! ### zip -/
def zipD (xs ys : List D) : List D := List.zipWith (fun a b => .tup [a, b]) xs ys
theorem ei_zip {tpos : Pos} {elts : List Expr} {kk : Nat} (S' : γ → List Sl) (pk : α → β → γ) (ra rb : γ → Sl) (da db : γ → List D) (ds : γ → List D) (hm : X.mg "zip" = none) (h1 : EvE X w e1 S Ts m1 S1 R1) (h2 : ∀ a, EvE X w e2 (S1 a) (Ts ++ [R1 a]) (m2 a) (S2 a) (R2 a)) (hg : Gl X "zip" := by rfl)
    (hs : starEach [e1, e2] X.env = (false, eval e1 X.env) :: starEach [e2] X.env := by rfl) (hs2 : starEach [e2] X.env = [(false, eval e2 X.env)] := by rfl) (hpl : (backTo pos (starEach [e2] X.env)).any (·.1) = false := by rfl)
    (v1 : ∀ a b, vq (S2 a b) (R1 a) = some (da (pk a b)) := by intros; rfl) (v2 : ∀ a b, vq (S2 a b) (R2 a b) = some (db (pk a b)) := by intros; rfl)
    (hS : ∀ a b, S' (pk a b) = S2 a b := by intros; rfl) (hra : ∀ a b, ra (pk a b) = R1 a := by intros; rfl) (hrb : ∀ a b, rb (pk a b) = R2 a b := by intros; rfl) (hd : ∀ g, ds g = zipD (da g) (db g) := by intros; rfl) :
    EvI X w (.Tuple elts kk tpos) (.Call (.Name "zip" p) [e1, e2] [] pos) S Ts (m1.bind fun a => (m2 a).bind fun b => .ok (pk a b)) S' (fun g => [ra g, rb g]) (fun g => [.lst (da g), .lst (db g)]) ds := by
  intro C σ τ F H Q hK hτ E hq hx hb
  refine ⟨_, pi_zip hg hm (pa_cons can (pa_cons can pa_nil hs2) (by rw [hs, hs2])) hs hpl, ?_⟩
  refine ev2 _ h1 h2 hK hτ E _ (fun a b ha hb2 u v F1 H1 E1 => ?_) hx hb
  rw [ok_bind ha, ok_bind hb2] at hq
  have E1' : Env C (S2 a b ++ (Ts ++ [R1 a]) ++ [R2 a b]) (σ ++ τ ++ [some u] ++ [some v]) F1 H1 := by simpa [List.append_assoc] using E1
  obtain ⟨q2, ys, rfl, k1, k2⟩ := vq_list E1' (v2 a b)
  obtain ⟨q1, xs, rfl, g1, g2⟩ := vq_list E1.pop (v1 a b)
  rw [hK] at g1 k1
  refine ⟨q1, q2, xs, ys, rfl, g1, k1, hq (pk a b) rfl [.ref q1, .ref q2] F1 H1 _ rfl (by rw [hS]; simp only [hra, hrb]; simpa [List.append_assoc] using E1) ?_⟩
  intro C L T ρ F H i hK E hv
  have Ea : Env C (L ++ (T ++ [ra (pk a b)]) ++ [rb (pk a b)]) (ρ ++ [some (.ref q1)] ++ [some (.ref q2)]) F H := by simpa [List.append_assoc] using E
  have Eb : Env C (L ++ T ++ [ra (pk a b)]) (ρ ++ [some (.ref q1)]) F H := by
    have : Env C ((L ++ T ++ [ra (pk a b)]) ++ [rb (pk a b)]) ((ρ ++ [some (.ref q1)]) ++ [some (.ref q2)]) F H := by simpa [List.append_assoc] using E
    exact this.pop
  obtain ⟨p2, zs, e2, hz, hzr⟩ := vq_list (u := .ref q2) Ea hv.2.1
  obtain ⟨p1, ws, e1, hw, hwr⟩ := vq_list (u := .ref q1) Eb hv.1
  cases e1; cases e2
  rw [hK] at hz hw
  rw [hd]
  unfold zipD
  refine ⟨fun d hd => ?_, fun hl => ⟨ws, zs, hw, hz, by
    rw [List.length_zipWith] at hl
    rw [hwr.len, hzr.len]; omega⟩⟩
  rw [List.getElem?_zipWith] at hd
  cases ha1 : (da (pk a b))[i]? with
  | none => rw [ha1] at hd; simp at hd
  | some d1 =>
    cases hb1 : (db (pk a b))[i]? with
    | none => rw [ha1, hb1] at hd; simp at hd
    | some d2 =>
      rw [ha1, hb1] at hd
      cases hd
      obtain ⟨v1, j1, j2⟩ := hwr.get ha1
      obtain ⟨v2, j3, j4⟩ := hzr.get hb1
      refine ⟨⟨ws, zs, v1, v2, hw, hz, j1, j3⟩, fun y H' hy => ?_⟩
      obtain ⟨T', x, y', rfl, hT, rfl, hx1, hy1⟩ := hy
      have c1 := hx1 ws hw
      have c2 := hy1 zs hz
      rw [j1] at c1; cases c1
      rw [j3] at c2; cases c2
      have := E.newTup hT (.cons j2 (.cons j4 .nil))
      rw [hK] at this
      exact ⟨_, this.1, this.2⟩
/-! ### extend, by a new list -/
/-- x.extend(e): x an owned list, e a new one -/
theorem ev_ext (i : Nat) (S' : γ → List Sl) (R : γ → Sl) (pk : α → List D → γ) (q : α → Option Addr) (d : α → List D) (d1 : α → List D) {d0 : List D} {q0 : Option Addr}
    (h1 : EvE X w e1 S Ts m1 S1 R1) (h0 : S[i]? = some (.ow q0 (.list d0)) := by rfl) (hi : ∀ a, (S1 a)[i]? = some (.ow (q a) (.list (d a))) := by intros; rfl) (v1 : ∀ a, R1 a = .ow none (.list (d1 a)) := by intros; rfl)
    (hS : ∀ a r, S' (pk a r) = (S1 a).set i (.ow (q a) (.list r)) := by intros; rfl) (hR : ∀ a r, R (pk a r) = .v .non := by intros; rfl)
    (hN : X.N[i]? = some x := by rfl) (hvis : Vis X.env.scope x := by first | exact Or.inl rfl | exact Or.inr (Or.inl rfl) | exact Or.inr (Or.inr rfl))
    (hd : (x == ("__debug__" : Str)) = false := by decide) (hcd : (x == ("__classdict__" : Str)) = false := by decide)
    (hbase : attributeBase (.Name x px) "extend" X.env (eval (.Name x px) X.env) = eval (.Name x px) X.env := by rfl)
    (hfew : ((backTo cpos (starEach [e1] X.env)).all (fun x => !x.1) && (backToKw cpos (keywordEach [] X.env)).all (fun x => x.1.isSome) && decide (([e1] : List Expr).length + ([] : List Keyword).length + (if ([] : List Keyword).isEmpty then 0 else 1) < 30)) = true := by rfl)
    (hline : (apos.endLine == cpos.line) = true := by rfl) (hs : starEach [e1] X.env = [(false, eval e1 X.env)] := by rfl) (hplain : (backTo cpos (starEach [] X.env)).any (·.1) = false := by rfl) :
    EvE X w (.Call (.Attribute (.Name x px) "extend" apos) [e1] [] cpos) S Ts (m1.bind fun a => if (d a).length + (d1 a).length ≤ sizeLine then .ok (pk a (d a ++ d1 a)) else .bad) S' R := by
  intro C σ τ F H Q hK hτ E hq hx hb
  refine ⟨_, pe_bm PySem.F.plainAttrs_list PySem.F.slot_list_extend PySem.F.type_list_extend mtU (pe_var hN hvis hd hcd) (pa_cons can pa_nil hs) hbase hfew hline hs hplain, ?_⟩
  have hl := nil_len E hτ
  have hi0 := lt_of_get h0
  obtain ⟨p, o, a1, a2, _, a4, _⟩ := E.ow i _ _ (by rw [at_left hi0]; exact h0)
  rw [at_left (by omega)] at a1
  obtain ⟨xs0, rfl, _⟩ := a4
  refine ⟨.ref p, a1, .inl ⟨rfl, xs0, .inl (.inl a2)⟩, ?_⟩
  refine h1 C σ τ F H _ hK hτ E (fun a ha u F1 H1 E1 => ?_) (fun x ex => hx x (exc_bind ex)) (fun eb => hb (bad_bind eb))
  rw [ok_bind ha] at hq hb
  have hi1 := lt_of_get (hi a)
  have hl1 : (σ ++ τ).length = (S1 a ++ Ts).length := by have := E1.len; simp at this ⊢; omega
  have g1 : (S1 a ++ Ts ++ [R1 a])[i]? = some (.ow (q a) (.list (d a))) := by rw [at_left (by simp; omega), at_left hi1]; exact hi a
  obtain ⟨p', o', b1, b2, b3, b4, b5⟩ := E1.ow i _ _ g1
  have b1' := b1
  have i1 : i < σ.length := by omega
  have i2 : i < (σ ++ τ).length := by rw [List.length_append]; omega
  have a1' : (σ ++ τ)[i]? = some (some (.ref p)) := by rw [at_left i1]; exact a1
  rw [at_left i2, a1'] at b1; cases b1
  have g2 : (S1 a ++ Ts ++ [R1 a])[(S1 a ++ Ts).length]? = some (.ow none (.list (d1 a))) := by rw [← v1]; exact at_last
  obtain ⟨p2, o2, c1, c2, c3, c4, _⟩ := E1.ow _ _ _ g2
  rw [← hl1, at_last] at c1
  cases c1
  obtain ⟨xs, rfl, k1⟩ := b4
  obtain ⟨zs, rfl, k2⟩ := c4
  by_cases hz : (d a).length + (d1 a).length ≤ sizeLine
  · rw [if_pos hz] at hq
    refine ⟨_, mt_extend, p, p2, xs, zs, rfl, rfl, b2, c2, by rw [k1.len, k2.len]; exact hz, ?_⟩
    refine hq _ rfl .non F1 _ ?_
    rw [hS, hR]
    have E2 := E1.pop
    have g3 : (S1 a ++ Ts)[i]? = some (.ow (q a) (.list (d a))) := by rw [at_left hi1]; exact hi a
    have E3 := E2.write (d' := .list (d a ++ d1 a)) g3 a1' ⟨_, rfl, k1.app k2⟩
    rw [List.set_append_left _ _ hi1] at E3
    exact E3.pushV .non
  · rw [if_neg hz] at hb; exact absurd rfl hb
end
end G
namespace G
open PySem L2
section
variable {α β γ δ Ω : Type} {X : Cx} {w : Wx} {S Ts : List Sl} {m m1 : Res α} {S1 : α → List Sl} {R1 : α → Sl} {e e1 e2 e3 : Expr} {sts : List Stmt} {KO : Ω → Out} {pos : Pos}
/-- what is not told -/
theorem es_bad : EvS X w sts S Ts (Res.bad : Res Ω) KO := fun _ _ _ _ _ _ _ _ _ _ _ hb => absurd rfl hb
theorem ev_bad {R : α → Sl} : EvE X w e S Ts (Res.bad : Res α) (fun _ => S) R := fun _ _ _ _ _ _ _ _ _ _ _ hb => absurd rfl hb
/-- a < b < c, as a value -/
theorem ev_chain {op op' : CmpOp} {m1 : Res α} {m2 : Res β} {m3 : Res γ} {R1 : α → Sl} {R2 : β → Sl} {R3 : γ → Sl} (d1 : α → D) (d2 : β → D) (d3 : γ → D) (hu : X.A.units + 65 < cLine)
    (h1 : EvE X w e1 S Ts m1 (fun _ => S) R1) (h2 : ∀ a, EvE X w e2 S (Ts ++ [R1 a]) m2 (fun _ => S) R2) (h3 : ∀ a b, EvE X w e3 S (Ts ++ [R1 a] ++ [R2 b]) m3 (fun _ => S) R3)
    (hm : lastMarks [op, op'] [e2, e3] = false := by with_unfolding_all rfl)
    (v1 : ∀ a, vw S (R1 a) = some (d1 a) := by intros; rfl) (v2 : ∀ a, vw S (R2 a) = some (d2 a) := by intros; rfl) (v3 : ∀ a, vw S (R3 a) = some (d3 a) := by intros; rfl) :
    EvE X w (.Compare e1 [op, op'] [e2, e3] pos) S Ts (m1.bind fun a => m2.bind fun b => (opC op (d1 a) (d2 b)).bind fun k => if k then m3.bind fun c => opC op' (d2 b) (d3 c) else .ok false) (fun _ => S) (fun k => .v (.bl k)) := by
  intro C σ τ F H Q hK hτ E hq hx hb
  refine ⟨_, pe_chain opU opU can can can hm, ?_⟩
  refine ev2 _ h1 h2 hK hτ E _ (fun a b ha hb2 u v F' H' E' => ?_) hx hb
  rw [ok_bind ha, ok_bind hb2] at hq hx hb
  have r1 := E'.last2 (v1 a)
  have r2 := Env.last (T := Ts ++ [R1 a]) (ρ := σ ++ τ ++ [some u]) (by rw [← List.append_assoc]; exact E') (v2 b)
  have r2' := r2
  rw [hK] at r1 r2
  cases eo : opC op (d1 a) (d2 b) with
  | bad => rw [eo] at hb; exact absurd rfl hb
  | exc x => exact (opC_ne eo).elim
  | ok k =>
    rw [eo] at hq hx hb
    refine opC_ok hu E'.sub eo r1 r2 _ ⟨k, rfl, ?_⟩
    cases k with
    | false => exact hq false rfl (.bl false) F' H' (E'.pop.pop.pushV (.bl false))
    | true =>
      show Can X e3 σ H' _
      have e0 : (Res.ok true).bind (fun k => if k then m3.bind fun c => opC op' (d2 b) (d3 c) else .ok false) = m3.bind fun c => opC op' (d2 b) (d3 c) := rfl
      rw [e0] at hq hx hb
      refine h3 a b C σ (τ ++ [some u] ++ [some v]) F' H' _ hK (by simp [hτ]) (by simpa only [List.append_assoc] using E') (fun c hc x F2 H2 E2 => ?_) (fun x ex => hx x (exc_bind ex)) (fun eb => hb (bad_bind eb))
      rw [ok_bind hc] at hq hb
      have E2' : Env C (S ++ (Ts ++ [R1 a]) ++ [R2 b] ++ [R3 c]) (σ ++ τ ++ [some u] ++ [some v] ++ [some x]) F2 H2 := by simpa only [List.append_assoc] using E2
      have r2 := E2'.last2 (v2 b)
      have r3 := Env.last (L := S) (T := Ts ++ [R1 a] ++ [R2 b]) (ρ := σ ++ τ ++ [some u] ++ [some v]) (by simpa only [List.append_assoc] using E2') (v3 c)
      rw [hK] at r2 r3
      cases eo2 : opC op' (d2 b) (d3 c) with
      | bad => exact absurd eo2 hb
      | exc x => exact (opC_ne eo2).elim
      | ok k =>
        refine opC_ok hu E2'.sub eo2 r2 r3 _ ?_
        refine hq k eo2 (.bl k) F2 H2 ?_
        have E3 : Env C (S ++ Ts ++ [R1 a] ++ [R2 b]) (σ ++ τ ++ [some u] ++ [some v]) F2 H2 := by
          have := E2'.pop; simpa only [List.append_assoc] using this
        exact E3.pop.pop.pushV (.bl k)
end
end G
namespace L2
open PySem PySem.Spec PyProof.Rows
section
variable {X : Cx}
def rRemF : V → List V → Hp → VK → Prop := fun x xs H Q => ∃ (l : Addr) (ys : List V) (y : V) (j : Nat) (z : V), x = V.ref l ∧ xs = [y] ∧ H l = some (.lst ys) ∧ flatV y = true ∧ ys.all flatV = true ∧ ys[j]? = some z ∧ eqV z y = true ∧
  (∀ (m : Nat) (z' : V), m < j → ys[m]? = some z' → eqV z' y = false) ∧ Q .non (upd H l (.lst (ys.eraseIdx j)))
theorem mt_removeF : MtM X "list.remove" rRemF := by
  intro pins s σ H x xs v us Q I rx rxs h
  obtain ⟨l, ys, y, j, z, rfl, rfl, hH, fy, fys, hz, hzj, hno, q⟩ := h
  cases rx
  obtain ⟨uy, rfl, ry⟩ := rxs.one
  obtain ⟨zz, its, n, rv, hl, e⟩ := I.lstM hH
  obtain ⟨u, hu, ru⟩ := rv.get hz
  obtain ⟨hjl, hje⟩ := List.getElem?_eq_some_iff.mp hu
  have hvl := rv.length
  have hj : j < its.toArray.size := by simpa using hjl
  have hsl := sizeLine_eq
  refine call_meets PySem.F.slot_list_remove ⟨_, e, rfl⟩ PySem.F.entry_list_remove (PySem.F.args_list_remove_2 _ _)
    (SeqAt.list_removeAt l its.toArray n none #[] uy (eqU y) j hj ?_ ?_ (by rw [List.size_toArray]; omega)) ⟨e, fun u' hu' => mem_eqAt ry fy rv fys u' (by simpa using hu'), ?_⟩
  · have e1 : its.toArray[j] = u := by simpa using hje
    rw [e1, eqU_of ru (flat_at fys hz)]
    exact hzj
  · intro m hm hmj
    have hml : m < its.length := by simpa using hm
    have hmy : m < ys.length := by omega
    have hy' : ys[m]? = some ys[m] := List.getElem?_eq_getElem hmy
    obtain ⟨u2, hu2, ru2⟩ := rv.get hy'
    obtain ⟨_, hme⟩ := List.getElem?_eq_some_iff.mp hu2
    have e1 : its.toArray[m] = u2 := by simpa using hme
    rw [e1, eqU_of ru2 (flat_at fys hy')]
    exact hno m _ hmj hy'
  · have rr := rv.eraseIdx j
    refine ⟨.non, _, I.lset (its' := its.eraseIdx j) (t' := s.toks) hH e ?_ rr ?_, rfl, q⟩
    · show its.toArray.eraseIdxIfInBounds j = (its.eraseIdx j).toArray
      rw [List.eraseIdxIfInBounds_toArray]
    · have := List.length_eraseIdx_le (l := ys) (i := j)
      omega
end
end L2
namespace G
open PySem L2
section
variable {α β γ δ : Type} {X : Cx} {w : Wx} {S Ts : List Sl} {m m1 : Res α} {S' : γ → List Sl} {R : γ → Sl} {S1 : α → List Sl} {R1 : α → Sl} {e1 e2 : Expr} {m2 : α → Res β} {S2 : α → β → List Sl} {R2 : α → β → Sl} {x mn : Str} {p px apos cpos pos : Pos} {id : String}
/-! ### remove -/
def opRemove : List D → List D → Res (D × List D)
  | xs, [x] => if flatD x && xs.all flatD then match idxF x xs with
    | some j => .ok (.non, xs.eraseIdx j)
    | none => .bad else .bad
  | _, _ => .bad
theorem remove_ne {d : List D} {ds : List D} {x : Exn} (e : opRemove d ds = .exc x) : False := by
  unfold opRemove at e; split at e
  · split at e
    · split at e <;> cases e
    · cases e
  · cases e
theorem remove_ok {d : List D} {ds : List D} {r : D × List D} {F H : Hp} {p : Addr} {us : List V} {o : HO} (h : opRemove d ds = .ok r) (hp : H p = some o) (t : Top X.K F o (.list d)) (hu : RpL X.K F us ds) : ∃ o' z, Top X.K F o' (.list r.2) ∧ Rp X.K F z r.1 ∧ ∀ Q : VK, Q z (upd H p o') → rM X "list.remove" (.ref p) us H Q := by
  unfold opRemove at h
  split at h
  · rename_i x
    split at h
    · rename_i hf
      have hf' := Bool.and_eq_true_iff.mp hf
      split at h
      · rename_i j hj
        cases h
        obtain ⟨vs, rfl, b⟩ := t
        cases hu with
        | cons rv rt =>
          cases rt
          rename_i v
          obtain ⟨⟨z, h1, h2⟩, h3⟩ := idxF_spec x d j hj
          obtain ⟨f1, f2⟩ := flat_rp rv hf'.1
          have fl : ∀ y ∈ d, flatD y = true := List.all_eq_true.mp hf'.2
          obtain ⟨vz, g1, g2⟩ := b.get h1
          refine ⟨.lst (vs.eraseIdx j), .non, ⟨_, rfl, b.era j⟩, .non, fun Q q => ⟨_, mt_removeF, p, vs, v, j, vz, rfl, rfl, hp, f1, (inF_ok rv hf'.1 b hf'.2).1, g1, by rw [f2 _ _ g2 (fl z (List.mem_of_getElem? h1))]; exact h2, fun k z' hk hz' => ?_, q⟩⟩
          obtain ⟨dz, k1, k2⟩ := b.at hz'
          rw [f2 _ _ k2 (fl dz (List.mem_of_getElem? k1))]
          exact h3 k dz hk k1
      · cases h
    · cases h
  · cases h
/-! ### repr([..]): the parts as they are now -/
theorem RnL.rpL {K : PySem.W.Frag} {F H : Hp} (e : Le F H) : ∀ {us : List V} {ds : List D}, RnL K F H us ds → RpL K H us ds
  | _, _, .nil => .nil
  | _, _, .cons a b => .cons (a.rp e) (RnL.rpL e b)
theorem ev_reprL {es : List Expr} {Rs : α → List Sl} {lp : Pos} (S' : γ → List Sl) (R : γ → Sl) (pk : α → D → γ) (ds : α → List D) (hgd : X.A.guards = some []) (hu : X.A.units + 65 < cLine) (hm : X.mg "repr" = none)
    (ha : EvA X w es S Ts m S1 Rs) (hv : ∀ a, VwL (S1 a) (Rs a) (ds a)) (hz : ∀ a, (ds a).length ≤ sizeLine := by intros; exact Nat.le_of_ble_eq_true rfl) (hS : ∀ a d, S' (pk a d) = S1 a := by intros; rfl) (hR : ∀ a d, R (pk a d) = .v d := by intros; rfl)
    (hg : Gl X "repr" := by rfl) (hs : starEach [.List es lp] X.env = [(false, eval (.List es lp) X.env)] := by rfl) (hpl : (backTo pos (starEach [] X.env)).any (·.1) = false := by rfl) :
    EvE X w (.Call (.Name "repr" p) [.List es lp] [] pos) S Ts (m.bind fun a => (opRepr [.list (ds a)]).bind fun d => .ok (pk a d)) S' R := by
  intro C σ τ F H Q hK hτ E hq hx hb
  refine ⟨_, pe_callB (id := "repr") callU hg hm (by decide +kernel) (pa_cons (pe_lst canA) pa_nil hs) (by decide) (by decide) hs hpl, ?_⟩
  refine ha C σ τ F H _ hK hτ E (fun a ha us F1 H1 hl E1 => ?_) (fun x ex => hx x (exc_bind ex)) (fun eb => hb (bad_bind eb))
  rw [ok_bind ha] at hq hb
  have rs := E1.lasts hl (hv a)
  refine ⟨by rw [rs.len]; exact hz a, fun r hr => ?_⟩
  have rH : RpL C.K (upd H1 r (.lst us)) us (ds a) := RpL.mono (Le.new hr) _ _ (rs.rpL E1.sub)
  have r1 : Rp C.K (upd H1 r (.lst us)) (.ref r) (.list (ds a)) := .lst (.inl upd_same) rH
  cases eo : opRepr [.list (ds a)] with
  | bad => rw [eo] at hb; exact absurd rfl hb
  | exc x => exact (repr_ne eo).elim
  | ok d =>
    rw [eo] at hq
    rw [hK] at r1
    obtain ⟨z, rz, k⟩ := repr_ok (X := X) (F := upd H1 r (.lst us)) (H := upd H1 r (.lst us)) hgd hu (Le.refl _) eo (.cons (.inl r1) .nil)
    refine k _ (hq (pk a d) rfl z F1 _ ?_)
    rw [hS, hR]
    have E2 := (E1.pre (by simpa using hl)).ext (H' := upd H1 r (.lst us)) (fun b o e => by
      have : b ≠ r := fun q => by subst q; rw [hr] at e; cases e
      rw [upd_ne this]; exact e)
    have hd : ∃ s, d = .str s := by
      unfold opRepr at eo
      simp only at eo
      by_cases hc : (plain (.list (ds a)) && (toP (.list (ds a))).showable && decide ((toP (.list (ds a))).depth ≤ 60) && decide ((toP (.list (ds a))).shown.length ≤ sizeLine) && !(toP (.list (ds a))).hasDict) = true
      · rw [if_pos hc] at eo; cases eo; exact ⟨_, rfl⟩
      · rw [if_neg hc] at eo; cases eo
    obtain ⟨s, rfl⟩ := hd
    cases rz
    exact E2.pushV (.str s)
/-! ### a new list, or None -/
def optR : Option (List D) → Res (List D)
  | some l => .ok l
  | none => .bad
/-- taken as a list -/
theorem ev_optL (g : α → Option (List D)) (S' : γ → List Sl) (R : γ → Sl) (pk : α → List D → γ) (h1 : EvE X w e1 S Ts m S1 R1) (v1 : ∀ a, R1 a = optS (g a) := by intros; rfl) (hS : ∀ a d, S' (pk a d) = S1 a := by intros; rfl) (hR : ∀ a d, R (pk a d) = .ow none (.list d) := by intros; rfl) :
    EvE X w e1 S Ts (m.bind fun a => (optR (g a)).bind fun d => .ok (pk a d)) S' R := by
  intro C σ τ F H Q hK hτ E hq hx hb
  refine h1 C σ τ F H Q hK hτ E (fun a ha u F1 H1 E1 => ?_) (fun x ex => hx x (exc_bind ex)) (fun eb => hb (bad_bind eb))
  rw [ok_bind ha] at hq hb
  rw [v1] at E1
  cases eo : g a with
  | none => rw [eo] at hb; exact absurd rfl hb
  | some l =>
    rw [eo] at hq E1
    refine hq (pk a l) rfl u F1 H1 ?_
    rw [hS, hR]
    exact E1
/-- frozen -/
theorem ev_optF (g : α → Option (List D)) (h1 : EvE X w e1 S Ts m S1 R1) (v1 : ∀ a, R1 a = optS (g a) := by intros; rfl) : EvE X w e1 S Ts m S1 (fun a => .v (optD (g a))) := by
  intro C σ τ F H Q hK hτ E hq hx hb
  refine h1 C σ τ F H Q hK hτ E (fun a ha u F1 H1 E1 => ?_) hx hb
  rw [v1] at E1
  cases eo : g a with
  | none =>
    rw [eo] at E1
    have := hq a ha u F1 H1
    simp only [eo] at this
    exact this E1
  | some l =>
    rw [eo] at E1
    have hq' := hq a ha u
    simp only [eo] at hq'
    obtain ⟨F', E2⟩ := E1.freeze (k := (S1 a ++ Ts).length) (q := none) (d := .list l) at_last
    refine hq' F' H1 ?_
    have : (S1 a ++ Ts ++ [optS (some l)]).set (S1 a ++ Ts).length (.v (.list l)) = S1 a ++ Ts ++ [.v (.list l)] := by
      rw [List.set_append_right _ _ (Nat.le_refl _)]; simp
    rw [this] at E2
    exact E2
/-- told as a list, or None -/
theorem ev_optI (g : α → List D) (h1 : EvE X w e1 S Ts m S1 R1) (v1 : ∀ a, R1 a = .ow none (.list (g a)) := by intros; rfl) : EvE X w e1 S Ts m S1 (fun a => optS (some (g a))) := by
  have : R1 = fun a => optS (some (g a)) := funext v1
  rw [← this]; exact h1
theorem ev_optN {S1 : D → List Sl} (h1 : EvE X w e1 S Ts (.ok D.non) S1 .v) : EvE X w e1 S Ts (.ok D.non) S1 (fun _ => optS none) := by
  intro C σ τ F H Q hK hτ E hq hx hb
  refine h1 C σ τ F H Q hK hτ E (fun a ha u F1 H1 E1 => ?_) hx hb
  cases ha
  exact hq _ rfl u F1 H1 E1
end
end G
/-! an owned object, only read for a while -/
namespace G
open PySem L2
def owA1 : Option Sl → Option (Option V) → Option Addr
  | some (.ow _ _), some (some (.ref a)) => some a
  | _, _ => none
def owA (L : List Sl) (ρ : List (Option V)) : List Addr := (List.range L.length).filterMap fun j => owA1 L[j]? ρ[j]?
theorem mem_owA {L : List Sl} {ρ : List (Option V)} {a : Addr} : a ∈ owA L ρ ↔ ∃ (j : Nat) (q : Option Addr) (d : D), L[j]? = some (.ow q d) ∧ ρ[j]? = some (some (.ref a)) := by
  unfold owA
  rw [List.mem_filterMap]
  constructor
  · rintro ⟨j, _, h⟩
    unfold owA1 at h
    split at h
    · rename_i q d a' h1 h2
      cases h
      exact ⟨j, q, d, h1, h2⟩
    · cases h
  · rintro ⟨j, q, d, h1, h2⟩
    refine ⟨j, List.mem_range.mpr (lt_of_get h1), ?_⟩
    rw [h1, h2]; rfl
def EC.bor (C : EC) (L : List Sl) (ρ : List (Option V)) (F H : Hp) (p : Addr) : EC := ⟨C.K, F, H, (C.io ++ owA L ρ).filter (fun a => decide (a ≠ p))⟩
section
variable {C : EC} {L : List Sl} {ρ : List (Option V)} {F H : Hp} {i : Nat} {q : Option Addr} {d : D} {p : Addr}
theorem Env.borrow (E : Env C L ρ F H) (hi : L[i]? = some (.ow q d)) (hp : ρ[i]? = some (some (.ref p))) : Env (C.bor L ρ F H p) (L.set i (.rd d)) ρ F H := by
  have il := lt_of_get hi
  obtain ⟨p0, o, a1, a2, a3, a4, a5, _⟩ := E.ow i q d hi
  rw [hp] at a1; cases a1
  have old : ∀ {j : Nat} {s : Sl}, (L.set i (.rd d))[j]? = some s → (j = i ∧ s = .rd d) ∨ (j ≠ i ∧ L[j]? = some s) := fun {j s} h => by
    by_cases hj : j = i
    · subst hj; rw [List.getElem?_set_self il] at h; cases h; exact .inl ⟨rfl, rfl⟩
    · rw [List.getElem?_set_ne (Ne.symm hj)] at h; exact .inr ⟨hj, h⟩
  refine ⟨by simp [E.len], E.sub, fun j e h => ?_, fun j q' e h => ?_, fun j e h => ?_, fun j k h => ?_, fun j e h => ?_, fun j k p' q1 d1 q2 d2 hne h1 h2 h3 h4 => ?_, fun b o e _ => e, ⟨Le.refl F, E.gg.2⟩, fun b hb => .inl hb⟩
  · rcases old h with ⟨_, z⟩ | ⟨_, h⟩
    · cases z
    · exact E.va j e h
  · rcases old h with ⟨_, z⟩ | ⟨hj, h⟩
    · cases z
    · obtain ⟨p', o', b1, b2, b3, b4, b5, b6⟩ := E.ow j q' e h
      refine ⟨p', o', b1, b2, b3, b4, .inr ?_, b6⟩
      refine List.mem_filter.mpr ⟨List.mem_append.mpr (.inr (mem_owA.mpr ⟨j, q', e, h, b1⟩)), ?_⟩
      have : p' ≠ p := fun z => by subst z; exact E.apart j i p' q' e q d hj h hi b1 hp
      simpa using this
  · rcases old h with ⟨rfl, z⟩ | ⟨hj, h⟩
    · cases z
      refine ⟨_, hp, .inr ⟨p, o, rfl, .inl a2, a4, fun k q' d' h1 h2 => ?_⟩⟩
      rcases old h1 with ⟨_, z⟩ | ⟨hk, h1⟩
      · cases z
      · exact E.apart k j p q' d' q d hk h1 hi h2 hp
    · obtain ⟨x, b1, b2⟩ := E.rd j e h
      refine ⟨x, b1, b2.imp id ?_⟩
      rintro ⟨p', o', e1, e2, e3, e4⟩
      refine ⟨p', o', e1, e2, e3, fun k q' d' h1 h2 => ?_⟩
      rcases old h1 with ⟨_, z⟩ | ⟨hk, h1⟩
      · cases z
      · exact e4 k q' d' h1 h2
  · rcases old h with ⟨_, z⟩ | ⟨_, h⟩
    · cases z
    · exact E.al j k h
  · rcases old h with ⟨_, z⟩ | ⟨_, h⟩
    · cases z
    · exact E.sc j e h
  · rcases old h1 with ⟨_, z⟩ | ⟨_, h1⟩
    · cases z
    · rcases old h2 with ⟨_, z⟩ | ⟨_, h2⟩
      · cases z
      · exact E.apart j k p' q1 d1 q2 d2 hne h1 h2 h3 h4
def noRd : Sl → Bool
  | .v _ => true
  | .ow _ _ => true
  | .un => true
  | _ => false
/-- taken back, with one value more -/
theorem Env.unborrow {R : Sl} {u : Option V} {F' H' : Hp} (E : Env C L ρ F H) (hi : L[i]? = some (.ow q d)) (hp : ρ[i]? = some (some (.ref p))) (hR : noRd R = true) (E' : Env (C.bor L ρ F H p) (L.set i (.rd d) ++ [R]) (ρ ++ [u]) F' H') : Env C (L ++ [R]) (ρ ++ [u]) F' H' := by
  have il := lt_of_get hi
  have hl := E.len
  obtain ⟨p0, o, a1, a2, a3, a4, a5, a6⟩ := E.ow i q d hi
  rw [hp] at a1; cases a1
  have npio : p ∉ (C.bor L ρ F H p).io := fun z => by simpa [EC.bor] using (List.mem_filter.mp z).2
  have hHp : H' p = some o := E'.hold p o a2 npio
  have hFp : F' p = none := by
    cases e : F' p with
    | none => rfl
    | some x =>
      rcases E'.gn p (by rw [e]; simp) with h | h | h
      · exact absurd a3 h
      · rw [show (C.bor L ρ F H p).H0 p = H p from rfl, a2] at h; cases h
      · exact absurd h npio
  have hle : Le F F' := E'.gg.1
  have hold0 : ∀ b, H b = none → C.H0 b = none ∨ b ∈ C.io := fun b hb => by
    by_cases hio : b ∈ C.io
    · exact .inr hio
    · cases e : C.H0 b with
      | none => exact .inl rfl
      | some u => have := E.hold b u e hio; rw [hb] at this; cases this
  have io0 : ∀ b, b ∈ (C.bor L ρ F H p).io → C.H0 b = none ∨ b ∈ C.io := fun b hb => by
    rcases List.mem_append.mp (List.mem_filter.mp hb).1 with h | h
    · exact .inr h
    · obtain ⟨j, q', d', h1, h2⟩ := mem_owA.mp h
      obtain ⟨p', o', b1, b2, b3, b4, b5, _⟩ := E.ow j q' d' h1
      rw [h2] at b1; cases b1
      exact b5
  have setl : (L.set i (.rd d)).length = L.length := by simp
  have at' : ∀ {j : Nat} {s : Sl}, (L ++ [R])[j]? = some s → (j = i ∧ s = .ow q d) ∨ (j ≠ i ∧ (L.set i (.rd d) ++ [R])[j]? = some s ∧ ((j < L.length ∧ L[j]? = some s) ∨ (j = L.length ∧ s = R))) := fun {j s} h => by
    by_cases hj : j = i
    · subst hj
      rw [at_left il, hi] at h; cases h
      exact .inl ⟨rfl, rfl⟩
    · refine .inr ⟨hj, ?_⟩
      by_cases hjl : j < L.length
      · rw [at_left hjl] at h
        exact ⟨by rw [at_left (by rw [setl]; exact hjl), List.getElem?_set_ne (Ne.symm hj)]; exact h, .inl ⟨hjl, h⟩⟩
      · have := lt_of_get h
        have hje : j = L.length := by simp at this; omega
        subst hje
        rw [at_last] at h; cases h
        exact ⟨by rw [← setl]; exact at_last, .inr ⟨rfl, rfl⟩⟩
  have hi' : (L.set i (.rd d) ++ [R])[i]? = some (.rd d) := by rw [at_left (by rw [setl]; exact il), List.getElem?_set_self il]
  have hp' : (ρ ++ [u])[i]? = some (some (.ref p)) := by rw [at_left (by omega)]; exact hp
  have noow : ∀ (j : Nat) q' d', (L.set i (.rd d) ++ [R])[j]? = some (.ow q' d') → (ρ ++ [u])[j]? = some (some (.ref p)) → False := fun j q' d' h1 h2 => by
    obtain ⟨x, b1, b2⟩ := E'.rd i d hi'
    rw [hp'] at b1; cases b1
    rcases b2 with b2 | ⟨p', o', e1, e2, e3, e4⟩
    · have : ∃ z, F' p = some z := by
        cases d <;> simp only [Top] at a4
        · cases b2 with
          | lst g1 _ => rcases g1 with g1 | ⟨z, g1⟩ <;> exact ⟨_, g1⟩
        · cases b2 with
          | dic g1 _ => rcases g1 with g1 | ⟨z, g1⟩ <;> exact ⟨_, g1⟩
      obtain ⟨z, hz⟩ := this
      rw [hFp] at hz; cases hz
    · cases e1
      exact e4 j q' d' h1 h2
  have nrd : ∀ (j : Nat) e, j ≠ i → (L ++ [R])[j]? = some (.rd e) → (ρ ++ [u])[j]? = some (some (.ref p)) → Rp C.K F (.ref p) e := fun j e hj h1 h2 => by
    rcases at' h1 with ⟨z, _⟩ | ⟨_, _, ⟨hjl, h1⟩ | ⟨_, z⟩⟩
    · exact absurd z hj
    · rw [at_left (by omega)] at h2
      obtain ⟨x, b1, b2⟩ := E.rd j e h1
      rw [h2] at b1; cases b1
      rcases b2 with b2 | ⟨p', o', e1, e2, e3, e4⟩
      · exact b2
      · cases e1; exact (e4 i q d hi hp).elim
    · rw [← z] at hR; cases hR
  refine ⟨by simp [hl], E'.sub, fun j e h => ?_, fun j q' e h => ?_, fun j e h => ?_, fun j k h => ?_, fun j e h => ?_, fun j k p' q1 d1 q2 d2 hne h1 h2 h3 h4 => ?_, fun b o e n => ?_, ⟨E.gg.1.trans hle, E'.gg.2⟩, fun b hb => ?_⟩
  · rcases at' h with ⟨_, z⟩ | ⟨_, h, _⟩
    · cases z
    · exact E'.va j e h
  · rcases at' h with ⟨rfl, z⟩ | ⟨hj, h, _⟩
    · cases z
      exact ⟨p, o, hp', hHp, hFp, a4.mono hle, a5, a6⟩
    · obtain ⟨p', o', b1, b2, b3, b4, b5, b6⟩ := E'.ow j q' e h
      refine ⟨p', o', b1, b2, b3, b4, ?_, b6⟩
      rcases b5 with b5 | b5
      · exact hold0 p' b5
      · exact io0 p' b5
  · rcases at' h with ⟨_, z⟩ | ⟨hj, h', _⟩
    · cases z
    · obtain ⟨x, b1, b2⟩ := E'.rd j e h'
      refine ⟨x, b1, ?_⟩
      rcases b2 with b2 | ⟨p', o', e1, e2, e3, e4⟩
      · exact .inl b2
      · by_cases hpp : p' = p
        · subst hpp; subst e1
          exact .inl (Rp.mono hle _ _ (nrd j e hj h b1))
        · refine .inr ⟨p', o', e1, e2, e3, fun k q' d' h1 h2 => ?_⟩
          rcases at' h1 with ⟨rfl, z⟩ | ⟨_, h1, _⟩
          · rw [hp'] at h2; cases h2; exact hpp rfl
          · exact e4 k q' d' h1 h2
  · rcases at' h with ⟨_, z⟩ | ⟨_, h, _⟩
    · cases z
    · exact E'.al j k h
  · rcases at' h with ⟨_, z⟩ | ⟨_, h, _⟩
    · cases z
    · obtain ⟨p', xs, b1, b2, b3⟩ := E'.sc j e h
      exact ⟨p', xs, b1, b2, b3⟩
  · rcases at' h1 with ⟨rfl, z⟩ | ⟨hj, h1, _⟩
    · cases z
      rw [hp'] at h3; cases h3
      rcases at' h2 with ⟨rfl, _⟩ | ⟨_, h2, _⟩
      · exact hne rfl
      · exact noow k q2 d2 h2 h4
    · rcases at' h2 with ⟨rfl, z⟩ | ⟨_, h2, _⟩
      · cases z
        rw [hp'] at h4; cases h4
        exact noow j q1 d1 h1 h3
      · exact E'.apart j k p' q1 d1 q2 d2 hne h1 h2 h3 h4
  · have h1 := E.hold b o e n
    refine E'.hold b o h1 fun z => ?_
    rcases io0 b z with z | z
    · rw [e] at z; cases z
    · exact n z
  · rcases E'.gn b hb with h | h | h
    · exact E.gn b h
    · exact .inr (hold0 b h)
    · exact .inr (io0 b h)
end
def isUn : Sl → Bool
  | .un => true
  | _ => false
theorem Env.uns2 {C C' : EC} {S : List Sl} {σ : List (Option V)} {F H : Hp} (hS : S.all isUn = true) (E : Env C S σ F H) (h1 : ∀ b o, C'.H0 b = some o → b ∉ C'.io → H b = some o) (h2 : Le C'.F0 F) (h3 : ∀ b, F b ≠ none → C'.F0 b ≠ none ∨ C'.H0 b = none ∨ b ∈ C'.io) : Env C' S σ F H := by
  have un : ∀ {j : Nat} {s : Sl}, S[j]? = some s → s = .un := fun {j s} h => by
    have := List.all_eq_true.mp hS s (List.mem_of_getElem? h)
    cases s <;> first | rfl | exact absurd this (by simp [isUn])
  refine ⟨E.len, E.sub, fun j e h => ?_, fun j q e h => ?_, fun j e h => ?_, fun j k h => ?_, fun j e h => ?_, fun j k p q d q' d' _ h _ _ _ => ?_, h1, ⟨h2, E.gg.2⟩, h3⟩
  · have := un h; cases this
  · have := un h; cases this
  · have := un h; cases this
  · have := un h; cases this
  · have := un h; cases this
  · have := un h; cases this
section
variable {α β γ δ : Type} {X : Cx} {w : Wx} {S Ts : List Sl} {m : Res α} {R : α → Sl} {e : Expr}
/-- e reads the owned object at i, as a readable one -/
theorem ev_borrow {q : Option Addr} {d : D} (i : Nat) (h : EvE X w e (S.set i (.rd d)) Ts m (fun _ => S.set i (.rd d)) R) (hi : S[i]? = some (.ow q d) := by rfl) (hR : ∀ a, noRd (R a) = true := by intros; rfl) (hw : w.S.all isUn = true := by rfl) : EvE X w e S Ts m (fun _ => S) R := by
  intro C σ τ F H Q hK hτ E hq hx hb
  have il := lt_of_get hi
  have hi' : (S ++ Ts)[i]? = some (.ow q d) := by rw [at_left il]; exact hi
  obtain ⟨p, o, a1, a2, a3, a4, a5, _⟩ := E.ow i q d hi'
  have E1 := E.borrow hi' a1
  have hset : (S ++ Ts).set i (.rd d) = S.set i (.rd d) ++ Ts := List.set_append_left _ _ il
  rw [hset] at E1
  refine h (C.bor (S ++ Ts) (σ ++ τ) F H p) σ τ F H Q hK hτ E1 (fun a ha u F' H' E2 => ?_) (fun x ex => ?_) hb
  · rw [← hset] at E2
    exact hq a ha u F' H' (E.unborrow hi' a1 (hR a) E2)
  · intro cls dd F' H' E2 hex
    refine hx x ex cls dd F' H' (E2.uns2 hw (fun b o e n => ?_) (E.gg.1.trans E2.gg.1) (fun b hb => ?_)) hex
    · refine E2.hold b o (E.hold b o e n) fun z => ?_
      rcases List.mem_append.mp (List.mem_filter.mp z).1 with h | h
      · exact n h
      · obtain ⟨j, q', d', h1, h2⟩ := mem_owA.mp h
        obtain ⟨p', o', b1, b2, b3, b4, b5, _⟩ := E.ow j q' d' h1
        rw [h2] at b1; cases b1
        rcases b5 with b5 | b5
        · rw [b5] at e; cases e
        · exact n b5
    · have hold0 : ∀ b, H b = none → C.H0 b = none ∨ b ∈ C.io := fun b hb => by
        by_cases hio : b ∈ C.io
        · exact .inr hio
        · cases e : C.H0 b with
          | none => exact .inl rfl
          | some u => have := E.hold b u e hio; rw [hb] at this; cases this
      rcases E2.gn b hb with h | h | h
      · exact E.gn b h
      · exact .inr (hold0 b h)
      · rcases List.mem_append.mp (List.mem_filter.mp h).1 with h | h
        · exact .inr (.inr h)
        · obtain ⟨j, q', d', h1, h2⟩ := mem_owA.mp h
          obtain ⟨p', o', b1, b2, b3, b4, b5, _⟩ := E.ow j q' d' h1
          rw [h2] at b1; cases b1
          exact .inr b5
/-- e reads the owned object at i, as a readable one -/
theorem eq_borrow {te : TE} {q : Option Addr} {d : D} (i : Nat) (h : EvQ X w te (S.set i (.rd d)) Ts m (fun _ => S.set i (.rd d)) R) (hi : S[i]? = some (.ow q d) := by rfl) (hR : ∀ a, noRd (R a) = true := by intros; rfl) (hw : w.S.all isUn = true := by rfl) : EvQ X w te S Ts m (fun _ => S) R := by
  intro C σ τ F H Q hK hτ E hq hx hb
  have il := lt_of_get hi
  have hi' : (S ++ Ts)[i]? = some (.ow q d) := by rw [at_left il]; exact hi
  obtain ⟨p, o, a1, a2, a3, a4, a5, _⟩ := E.ow i q d hi'
  have E1 := E.borrow hi' a1
  have hset : (S ++ Ts).set i (.rd d) = S.set i (.rd d) ++ Ts := List.set_append_left _ _ il
  rw [hset] at E1
  refine h (C.bor (S ++ Ts) (σ ++ τ) F H p) σ τ F H Q hK hτ E1 (fun a ha u F' H' E2 => ?_) (fun x ex => ?_) hb
  · rw [← hset] at E2
    exact hq a ha u F' H' (E.unborrow hi' a1 (hR a) E2)
  · intro cls dd F' H' E2 hex
    refine hx x ex cls dd F' H' (E2.uns2 hw (fun b o e n => ?_) (E.gg.1.trans E2.gg.1) (fun b hb => ?_)) hex
    · refine E2.hold b o (E.hold b o e n) fun z => ?_
      rcases List.mem_append.mp (List.mem_filter.mp z).1 with h | h
      · exact n h
      · obtain ⟨j, q', d', h1, h2⟩ := mem_owA.mp h
        obtain ⟨p', o', b1, b2, b3, b4, b5, _⟩ := E.ow j q' d' h1
        rw [h2] at b1; cases b1
        rcases b5 with b5 | b5
        · rw [b5] at e; cases e
        · exact n b5
    · have hold0 : ∀ b, H b = none → C.H0 b = none ∨ b ∈ C.io := fun b hb => by
        by_cases hio : b ∈ C.io
        · exact .inr hio
        · cases e : C.H0 b with
          | none => exact .inl rfl
          | some u => have := E.hold b u e hio; rw [hb] at this; cases this
      rcases E2.gn b hb with h | h | h
      · exact E.gn b h
      · exact .inr (hold0 b h)
      · rcases List.mem_append.mp (List.mem_filter.mp h).1 with h | h
        · exact .inr (.inr h)
        · obtain ⟨j, q', d', h1, h2⟩ := mem_owA.mp h
          obtain ⟨p', o', b1, b2, b3, b4, b5, _⟩ := E.ow j q' d' h1
          rw [h2] at b1; cases b1
          exact .inr b5
theorem ek_borrow {q : Option Addr} {d : D} (i : Nat) (h : EvK X w e (S.set i (.rd d)) Ts m (fun _ => S.set i (.rd d)) R) (hi : S[i]? = some (.ow q d) := by rfl) (hR : ∀ a, noRd (R a) = true := by intros; rfl) (hw : w.S.all isUn = true := by rfl) : EvK X w e S Ts m (fun _ => S) R := by
  obtain ⟨te, h1, h2, h3⟩ := h
  exact ⟨te, eq_borrow i h1 hi hR hw, h2, h3⟩
end
end G
namespace M
open PySem L2 G
def m_law_pool (a : (List D) × D) : Res ((List D)) :=
  (iteR ((Res.ok a.2).bind fun (a1 : D) => ((Res.ok ()).bind fun (_u2 : Unit) => Res.ok (.int (a.1).length)).bind fun (a3 : D) => opC .Lt a1 a3) ((Res.ok ()).bind fun (_u4 : Unit) => (Res.ok a.2).bind fun (a5 : D) => opIx (.list a.1) a5) (Res.ok (D.int 0))).bind fun (a6 : D) => ((((Res.ok (D.int 0)).bind fun (a7 : D) => (((Res.ok a6).bind fun (a8 : D) => opAbs [a8]).bind fun (a9 : D) => ((Res.ok (D.int 10)).bind fun (a10 : D) => (Res.ok (D.int 18)).bind fun (a11 : D) => opB .Pow a10 a11).bind fun (a12 : D) => opB .Sub a9 a12).bind fun (a13 : D) => opMax [a7, a13]).bind fun (a14 : D) => ((((Res.ok a6).bind fun (a15 : D) => (Res.ok (D.int 2305843009213693951)).bind fun (a16 : D) => opB .Mod a15 a16).bind fun (a17 : D) => ((Res.ok (D.int 7919)).bind fun (a18 : D) => ((Res.ok a.2).bind fun (a19 : D) => (Res.ok (D.int 1)).bind fun (a20 : D) => opB .Add a19 a20).bind fun (a21 : D) => opB .Mult a18 a21).bind fun (a22 : D) => opB .Add a17 a22).bind fun (a23 : D) => (Res.ok (D.int 0)).bind fun (a24 : D) => Res.ok (a23, a24)).bind fun (q25 : D × D) => Res.ok (a14, q25)).bind fun (q26 : D × D × D) => Res.ok ([q26.1, q26.2.1, q26.2.2])).bind fun (r27 : (List D)) => Res.ok r27
end M
namespace M
open PySem L2 G
def m_law_draw_v2 (a : (List D) × D) : Res (D × (List D)) :=
  (((Res.ok ()).bind fun (_u1 : Unit) => (Res.ok (D.int 0)).bind fun (a2 : D) => opIx (D.list a.1) a2).bind fun (a3 : D) => (Res.ok (D.int 0)).bind fun (a4 : D) => opC .Gt a3 a4).bind fun (a5 : Bool) => if a5 then ((((Res.ok ()).bind fun (_u6 : Unit) => (Res.ok (D.int 0)).bind fun (a7 : D) => opIx (D.list a.1) a7).bind fun (a8 : D) => (Res.ok a.2).bind fun (a9 : D) => opB .Mod a8 a9).bind fun (a10 : D) => (((Res.ok ()).bind fun (_u11 : Unit) => (Res.ok (D.int 0)).bind fun (a12 : D) => opIx (D.list a.1) a12).bind fun (a13 : D) => (Res.ok a.2).bind fun (a14 : D) => opB .FloorDiv a13 a14).bind fun (a15 : D) => (Res.ok (D.int 0)).bind fun (a16 : D) => (opSet a.1 a16 a15).bind fun (r17 : List D) => (Res.ok a10).bind fun (a18 : D) => Res.ok (a18, r17)).bind fun (o19 : D × (List D)) => Res.ok o19 else (((Res.ok ()).bind fun (_u20 : Unit) => (Res.ok (D.int 2)).bind fun (a21 : D) => opIx (D.list a.1) a21).bind fun (a22 : D) => (Res.ok (D.int 1)).bind fun (a23 : D) => opB .Add a22 a23).bind fun (a24 : D) => (Res.ok (D.int 2)).bind fun (a25 : D) => (opSet a.1 a25 a24).bind fun (r26 : List D) => (((((Res.ok ()).bind fun (_u27 : Unit) => (Res.ok (D.int 1)).bind fun (a28 : D) => opIx (D.list r26) a28).bind fun (a29 : D) => ((Res.ok (D.int 104729)).bind fun (a30 : D) => ((Res.ok ()).bind fun (_u31 : Unit) => (Res.ok (D.int 2)).bind fun (a32 : D) => opIx (D.list r26) a32).bind fun (a33 : D) => opB .Mult a30 a33).bind fun (a34 : D) => opB .Add a29 a34).bind fun (a35 : D) => (Res.ok (D.int 3)).bind fun (a36 : D) => opB .Pow a35 a36).bind fun (a37 : D) => (Res.ok (D.int 618970019642690137449562111)).bind fun (a38 : D) => opB .Mod a37 a38).bind fun (a39 : D) => ((((Res.ok a39).bind fun (a40 : D) => ((Res.ok (D.int 1299709)).bind fun (a41 : D) => ((Res.ok ()).bind fun (_u42 : Unit) => (Res.ok (D.int 2)).bind fun (a43 : D) => opIx (D.list r26) a43).bind fun (a44 : D) => opB .Mult a41 a44).bind fun (a45 : D) => opB .Add a40 a45).bind fun (a46 : D) => (Res.ok (D.int 3)).bind fun (a47 : D) => opB .Pow a46 a47).bind fun (a48 : D) => (Res.ok (D.int 162259276829213363391578010288127)).bind fun (a49 : D) => opB .Mod a48 a49).bind fun (a50 : D) => (((Res.ok a50).bind fun (a51 : D) => (Res.ok (D.int 4096)).bind fun (a52 : D) => opB .FloorDiv a51 a52).bind fun (a53 : D) => (Res.ok a.2).bind fun (a54 : D) => opB .Mod a53 a54).bind fun (a55 : D) => Res.ok (a55, r26)
end M
namespace M
open PySem L2 G
def law_names_q1 (d1 : D) : Res (D) :=
  (Res.ok ()).bind fun _ => (Res.ok (D.str "k")).bind fun (a2 : D) => (Res.ok d1).bind fun (a3 : D) => opB .Mult a2 a3
def m_law_names (a : Unit) : Res ((List D)) :=
  ((Res.ok (D.str "abcdefghijklmnopqrstuvwxyz")).bind fun (a4 : D) => (opListS [a4]).bind fun (d5 : List D) => Res.ok d5).bind fun (r6 : (List D)) => ((((Res.ok ()).bind fun (_u7 : Unit) => (((Res.ok (D.str "abcdefgh")).bind fun (a8 : D) => (Res.ok (D.str "zz")).bind fun (a9 : D) => Res.ok (a8, a9)).bind fun (q10 : D × D) => Res.ok ([q10.1, q10.2])).bind fun (r11 : (List D)) => if (r6).length + (r11).length ≤ sizeLine then Res.ok (r6 ++ r11) else Res.bad).bind fun (r12 : (List D)) => (((Res.ok (D.int 2)).bind fun (a13 : D) => (Res.ok (D.int 9)).bind fun (a14 : D) => (intD a13).bind fun i15 => (intD a14).bind fun j16 => if inR i15 && inR j16 then Res.ok (i15, j16) else Res.bad).bind fun (r17 : Int × Int) => compM (fun (d1 : D) => law_names_q1 d1) (rngD r17.1 r17.2)).bind fun (a18 : List D) => if (r12).length + (a18).length ≤ sizeLine then Res.ok (r12 ++ a18) else Res.bad).bind fun (r19 : (List D)) => (((Res.ok (D.str "load")).bind fun (a20 : D) => ((Res.ok (D.str "hit")).bind fun (a21 : D) => ((Res.ok (D.str "evict")).bind fun (a22 : D) => ((Res.ok (D.str "no")).bind fun (a23 : D) => (Res.ok (D.str "yes")).bind fun (a24 : D) => Res.ok (a23, a24)).bind fun (q25 : D × D) => Res.ok (a22, q25)).bind fun (q26 : D × D × D) => Res.ok (a21, q26)).bind fun (q27 : D × D × D × D) => Res.ok (a20, q27)).bind fun (q28 : D × D × D × D × D) => Res.ok ([q28.1, q28.2.1, q28.2.2.1, q28.2.2.2.1, q28.2.2.2.2])).bind fun (r29 : (List D)) => if (r19).length + (r29).length ≤ sizeLine then Res.ok (r19 ++ r29) else Res.bad).bind fun (r30 : (List D)) => Res.ok r30
end M
namespace M
open PySem L2 G
def law_shuffled_q1 (b1 : (List D) × (List D)) (d2 : D) : Res (D × (List D) × (List D)) :=
  (((Res.ok ()).bind fun (_u3 : Unit) => ((Res.ok ()).bind fun (_u4 : Unit) => opLen [(D.list b1.2)]).bind fun (a5 : D) => Res.ok (_u3, a5)).bind fun (q6 : Unit × D) => (m_law_draw_v2 (b1.1, q6.2)).bind fun (b7 : D × (List D)) => Res.ok (b7.1, b7.2)).bind fun (r8 : D × (List D)) => (opPopAt b1.2 [r8.1]).bind fun d9 => Res.ok (d9.1, r8.2, d9.2)
def m_law_shuffled (a : (List D) × (List D)) : Res ((List D) × (List D)) :=
  ((Res.ok ()).bind fun (_u10 : Unit) => (opList [(D.list a.2)]).bind fun (d11 : List D) => Res.ok d11).bind fun (r12 : (List D)) => ((((Res.ok ()).bind fun (_u13 : Unit) => opLen [(D.list r12)]).bind fun (a14 : D) => (intD a14).bind fun i15 => if inR i15 then Res.ok i15 else Res.bad).bind fun (r16 : Int) => (compS (lcTurn (γ := Unit) (δ := Unit) (ε := D × (List D) × (List D)) (fun (b1 : (List D) × (List D)) d2 => Res.ok ()) (fun (b1 : (List D) × (List D)) (d2 : D) _ => Res.ok ()) (fun _ => true) (fun (b1 : (List D) × (List D)) (d2 : D) _ _t => law_shuffled_q1 b1 d2) (fun (b1 : (List D) × (List D)) (d2 : D) _ _t => (b1.1, b1.2)) (fun (b1 : (List D) × (List D)) (d2 : D) _ _t (r17 : D × (List D) × (List D)) => (r17.2.1, r17.2.2)) (fun (r17 : D × (List D) × (List D)) => r17.1)) (rngD 0 r16) (a.1, r12)).bind fun z18 => Res.ok (z18.2, z18.1.1, z18.1.2)).bind fun (r19 : (List D) × (List D) × (List D)) => Res.ok (r19.1, r19.2.1)
end M
namespace M
open PySem L2 G
def law_log_q1 (b1 : (List D) × (List D) × (List D)) (d2 : D) : Res (Option D) :=
  (Res.ok ()).bind fun _ => iffO ((Res.ok d2).bind fun (a3 : D) => (Res.ok ()).bind fun (_u4 : Unit) => opC .NotIn a3 (D.list b1.2.2)) (Res.ok d2)
def law_log_q2 (r5 : (List D) × (List D)) (r6 : D × (List D)) (r7 : D × (List D)) (b1 : (List D) × (List D) × (List D)) (d8 : D) : Res ((List D) × (List D) × (List D)) :=
  ((Res.ok ()).bind fun (_u9 : Unit) => compO (fun (d2 : D) => law_log_q1 b1 d2) r5.1).bind fun (a10 : List D) => (((Res.ok ()).bind fun (_u11 : Unit) => (((Res.ok r6.1).bind fun (a12 : D) => (Res.ok r7.1).bind fun (a13 : D) => opB .Add a12 a13).bind fun (a14 : D) => (Res.ok (D.int 2)).bind fun (a15 : D) => opB .Add a14 a15).bind fun (a16 : D) => Res.ok (_u11, a16)).bind fun (q17 : Unit × D) => (m_law_draw_v2 (b1.1, q17.2)).bind fun (b18 : D × (List D)) => Res.ok (b18.1, b18.2)).bind fun (r19 : D × (List D)) => (orR ((Res.ok ()).bind fun (_u20 : Unit) => ((Res.ok ()).bind fun _ => Res.ok ([] : List D)).bind fun (a21 : List D) => opC .Eq (D.list b1.2.2) (D.list a21)) (andR ((Res.ok r19.1).bind fun (a22 : D) => (Res.ok r6.1).bind fun (a23 : D) => opC .Lt a22 a23) ((Res.ok ()).bind fun (_u24 : Unit) => ((Res.ok ()).bind fun _ => Res.ok ([] : List D)).bind fun (a25 : List D) => opC .NotEq (D.list a10) (D.list a25)))).bind fun (a26 : Bool) => if a26 then (((Res.ok ()).bind fun (_u27 : Unit) => (((Res.ok ()).bind fun (_u28 : Unit) => ((Res.ok ()).bind fun (_u29 : Unit) => opLen [(D.list a10)]).bind fun (a30 : D) => Res.ok (_u28, a30)).bind fun (q31 : Unit × D) => (m_law_draw_v2 (r19.2, q31.2)).bind fun (b32 : D × (List D)) => Res.ok (b32.1, b32.2)).bind fun (r33 : D × (List D)) => (opIx (D.list a10) r33.1).bind fun (d34 : D) => Res.ok (d34, r33.2)).bind fun (r35 : D × (List D)) => (opAppend b1.2.2 [r35.1]).bind fun d36 => Res.ok (d36.1, r35.2, d36.2)).bind fun (r37 : D × (List D) × (List D)) => ((((Res.ok (D.str "load")).bind fun (a38 : D) => ((Res.ok ()).bind fun (_u39 : Unit) => ((Res.ok (D.int 1)).bind fun (a40 : D) => negD a40).bind fun (a41 : D) => opIx (D.list r37.2.2) a41).bind fun (a42 : D) => Res.ok (a38, a42)).bind fun (q43 : D × D) => Res.ok (D.tup [q43.1, q43.2])).bind fun (r44 : D) => (opAppend b1.2.1 [r44]).bind fun d45 => Res.ok (d45.1, d45.2)).bind fun (r46 : D × (List D)) => Res.ok (r37.2.1, r46.2, r37.2.2) else ((Res.ok r19.1).bind fun (a47 : D) => ((Res.ok r6.1).bind fun (a48 : D) => (Res.ok r7.1).bind fun (a49 : D) => opB .Add a48 a49).bind fun (a50 : D) => opC .Lt a47 a50).bind fun (a51 : Bool) => if a51 then ((((Res.ok (D.str "hit")).bind fun (a52 : D) => ((Res.ok ()).bind fun (_u53 : Unit) => (((Res.ok ()).bind fun (_u54 : Unit) => ((Res.ok ()).bind fun (_u55 : Unit) => opLen [(D.list b1.2.2)]).bind fun (a56 : D) => Res.ok (_u54, a56)).bind fun (q57 : Unit × D) => (m_law_draw_v2 (r19.2, q57.2)).bind fun (b58 : D × (List D)) => Res.ok (b58.1, b58.2)).bind fun (r59 : D × (List D)) => (opIx (D.list b1.2.2) r59.1).bind fun (d60 : D) => Res.ok (d60, r59.2)).bind fun (r61 : D × (List D)) => Res.ok (a52, r61)).bind fun (q62 : D × D × (List D)) => Res.ok ((D.tup [q62.1, q62.2.1]), q62.2.2)).bind fun (r63 : D × (List D)) => (opAppend b1.2.1 [r63.1]).bind fun d64 => Res.ok (d64.1, r63.2, d64.2)).bind fun (r65 : D × (List D) × (List D)) => Res.ok (r65.2.1, r65.2.2, b1.2.2) else ((((Res.ok (D.str "evict")).bind fun (a66 : D) => ((((Res.ok ()).bind fun (_u67 : Unit) => ((Res.ok ()).bind fun (_u68 : Unit) => opLen [(D.list b1.2.2)]).bind fun (a69 : D) => Res.ok (_u67, a69)).bind fun (q70 : Unit × D) => (m_law_draw_v2 (r19.2, q70.2)).bind fun (b71 : D × (List D)) => Res.ok (b71.1, b71.2)).bind fun (r72 : D × (List D)) => (opPopAt b1.2.2 [r72.1]).bind fun d73 => Res.ok (d73.1, r72.2, d73.2)).bind fun (r74 : D × (List D) × (List D)) => Res.ok (a66, r74)).bind fun (q75 : D × D × (List D) × (List D)) => Res.ok ((D.tup [q75.1, q75.2.1]), q75.2.2.1, q75.2.2.2)).bind fun (r76 : D × (List D) × (List D)) => (opAppend b1.2.1 [r76.1]).bind fun d77 => Res.ok (d77.1, r76.2.1, d77.2, r76.2.2)).bind fun (r78 : D × (List D) × (List D) × (List D)) => Res.ok (r78.2.1, r78.2.2.1, r78.2.2.2)
def m_law_log (a : (List D) × D) : Res ((List D) × (List D)) :=
  (((Res.ok ()).bind fun (_u79 : Unit) => ((Res.ok a.2).bind fun (a80 : D) => (Res.ok (D.int 1)).bind fun (a81 : D) => opB .Add a80 a81).bind fun (a82 : D) => Res.ok (_u79, a82)).bind fun (q83 : Unit × D) => (m_law_draw_v2 (a.1, q83.2)).bind fun (b84 : D × (List D)) => Res.ok (b84.1, b84.2)).bind fun (r85 : D × (List D)) => ((((Res.ok ()).bind fun (_u86 : Unit) => (m_law_names ()).bind fun (c87 : (List D)) => Res.ok (_u86, c87)).bind fun (q88 : Unit × (List D)) => (m_law_shuffled (r85.2, q88.2)).bind fun (b89 : (List D) × (List D)) => Res.ok (b89.1, b89.2)).bind fun (r90 : (List D) × (List D)) => (Res.ok ()).bind fun (_n91 : Unit) => (((Res.ok (D.int 1)).bind fun (a92 : D) => (((Res.ok ()).bind fun (_u93 : Unit) => ((((Res.ok (D.int 4)).bind fun (a94 : D) => ((Res.ok (D.int 8)).bind fun (a95 : D) => (Res.ok (D.int 40)).bind fun (a96 : D) => Res.ok (a95, a96)).bind fun (q97 : D × D) => Res.ok (a94, q97)).bind fun (q98 : D × D × D) => Res.ok ([q98.1, q98.2.1, q98.2.2])).bind fun (r99 : (List D)) => (((Res.ok ()).bind fun (_u100 : Unit) => (Res.ok (D.int 3)).bind fun (a101 : D) => Res.ok (_u100, a101)).bind fun (q102 : Unit × D) => (m_law_draw_v2 (r90.2, q102.2)).bind fun (b103 : D × (List D)) => Res.ok (b103.1, b103.2)).bind fun (r104 : D × (List D)) => (opIx (D.list r99) r104.1).bind fun (d105 : D) => Res.ok (d105, r104.2)).bind fun (r106 : D × (List D)) => Res.ok (_u93, r106)).bind fun (q107 : Unit × D × (List D)) => (m_law_draw_v2 (q107.2.2, q107.2.1)).bind fun (b108 : D × (List D)) => Res.ok (b108.1, b108.2)).bind fun (r109 : D × (List D)) => (opB .Add a92 r109.1).bind fun (d110 : D) => Res.ok (d110, r109.2)).bind fun (r111 : D × (List D)) => (intD r111.1).bind fun i112 => Res.ok (i112, r111.2)).bind fun (r113 : Int × (List D)) => Res.ok ((cutD r90.1 none (some r113.1)), r113.2)).bind fun (r5 : (List D) × (List D)) => ((Res.ok (D.int 1)).bind fun (a114 : D) => (((Res.ok ()).bind fun (_u115 : Unit) => (Res.ok (D.int 4)).bind fun (a116 : D) => Res.ok (_u115, a116)).bind fun (q117 : Unit × D) => (m_law_draw_v2 (r5.2, q117.2)).bind fun (b118 : D × (List D)) => Res.ok (b118.1, b118.2)).bind fun (r119 : D × (List D)) => (opB .Add a114 r119.1).bind fun (d120 : D) => Res.ok (d120, r119.2)).bind fun (r6 : D × (List D)) => (((Res.ok ()).bind fun (_u121 : Unit) => (Res.ok (D.int 4)).bind fun (a122 : D) => Res.ok (_u121, a122)).bind fun (q123 : Unit × D) => (m_law_draw_v2 (r6.2, q123.2)).bind fun (b124 : D × (List D)) => Res.ok (b124.1, b124.2)).bind fun (r7 : D × (List D)) => (((Res.ok ()).bind fun _ => Res.ok ([] : List D)).bind fun (a125 : List D) => ((Res.ok ()).bind fun _ => Res.ok ([] : List D)).bind fun (a126 : List D) => Res.ok (a125, a126)).bind fun (q127 : (List D) × List D) => ((Res.ok r85.1).bind fun (a128 : D) => (intD a128).bind fun i129 => if inR i129 then Res.ok i129 else Res.bad).bind fun (r130 : Int) => (foldR (fun (b1 : (List D) × (List D) × (List D)) d8 => law_log_q2 r5 r6 r7 b1 d8) (rngD 0 r130) (r7.2, q127.1, q127.2)).bind fun (b1 : (List D) × (List D) × (List D)) => (Res.ok ()).bind fun (a131 : Unit) => Res.ok (b1.2.1, b1.1)
end M
namespace M
open PySem L2 G
def law_filled_q1 (b1 : (List D) × (List D) × (List D)) (b2 : (List D)) (d3 : D) : Res (D × (List D)) :=
  (Res.ok ()).bind fun (_u4 : Unit) => (((Res.ok ()).bind fun (_u5 : Unit) => ((Res.ok ()).bind fun (_u6 : Unit) => opLen [(D.list b1.2.2)]).bind fun (a7 : D) => Res.ok (_u5, a7)).bind fun (q8 : Unit × D) => (m_law_draw_v2 (b2, q8.2)).bind fun (b9 : D × (List D)) => Res.ok (b9.1, b9.2)).bind fun (r10 : D × (List D)) => (opIx (D.list b1.2.2) r10.1).bind fun (d11 : D) => Res.ok (d11, r10.2)
def law_filled_q2 (d12 : D) (d13 : D) : Res (Option D) :=
  (Res.ok ()).bind fun _ => iffO ((Res.ok d13).bind fun (a14 : D) => (Res.ok d12).bind fun (a15 : D) => opC .NotEq a14 a15) (Res.ok d13)
def law_filled_q3 (d16 : D) : Res (D) :=
  (Res.ok ()).bind fun _ => ((Res.ok (D.str "hit")).bind fun (a17 : D) => (Res.ok d16).bind fun (a18 : D) => Res.ok (a17, a18)).bind fun (q19 : D × D) => Res.ok (D.tup [q19.1, q19.2])
def law_filled_q4 (g20 : D × D) (b21 : (List D) × (List D)) (d22 : D) : Res (Option D) :=
  (Res.ok ()).bind fun _ => iffO ((Res.ok d22).bind fun (a23 : D) => ((Res.ok ()).bind fun (_u24 : Unit) => ((Res.ok g20.2).bind fun (a25 : D) => Res.ok ([a25])).bind fun (r26 : (List D)) => if (b21.2).length + (r26).length ≤ sizeLine then Res.ok (b21.2 ++ r26) else Res.bad).bind fun (r27 : (List D)) => opC .NotIn a23 (D.list r27)) (Res.ok d22)
def law_filled_q5 (b28 : (List D)) (d12 : D) : Res ((List D)) :=
  (((Res.ok ()).bind fun (_u29 : Unit) => compO (fun (d13 : D) => law_filled_q2 d12 d13) b28).bind fun (a30 : List D) => ((Res.ok d12).bind fun (a31 : D) => Res.ok ([a31])).bind fun (r32 : (List D)) => if (a30).length + (r32).length ≤ sizeLine then Res.ok (a30 ++ r32) else Res.bad).bind fun (r33 : (List D)) => Res.ok r33
def law_filled_q6 (q34 : (List D) × (List D) × D × (List D)) (b1 : (List D) × (List D) × (List D)) (d35 : D) : Res ((List D) × (List D) × (List D)) :=
  (tup2 d35).bind fun (g20 : D × D) => ((Res.ok ()).bind fun _ => Res.ok ([] : List D)).bind fun (a36 : List D) => ((((Res.ok ()).bind fun (_u37 : Unit) => ((Res.ok ()).bind fun _ => Res.ok ([] : List D)).bind fun (a38 : List D) => opC .NotEq (D.list b1.2.2) (D.list a38)).bind fun (a39 : Bool) => if a39 then ((((Res.ok ()).bind fun (_u40 : Unit) => (Res.ok (D.int 4)).bind fun (a41 : D) => Res.ok (_u40, a41)).bind fun (q42 : Unit × D) => (m_law_draw_v2 (b1.1, q42.2)).bind fun (b43 : D × (List D)) => Res.ok (b43.1, b43.2)).bind fun (r44 : D × (List D)) => (Res.ok q34.2.2.1).bind fun (a45 : D) => (opC .Lt r44.1 a45).bind fun (d46 : Bool) => Res.ok (d46, r44.2)).bind fun (r47 : Bool × (List D)) => Res.ok (r47.1, r47.2) else Res.ok (false, b1.1)).bind fun (r48 : Bool × (List D)) => if r48.1 then ((((Res.ok (D.int 1)).bind fun (a49 : D) => (((Res.ok ()).bind fun (_u50 : Unit) => (Res.ok (D.int 2)).bind fun (a51 : D) => Res.ok (_u50, a51)).bind fun (q52 : Unit × D) => (m_law_draw_v2 (r48.2, q52.2)).bind fun (b53 : D × (List D)) => Res.ok (b53.1, b53.2)).bind fun (r54 : D × (List D)) => (opB .Add a49 r54.1).bind fun (d55 : D) => Res.ok (d55, r54.2)).bind fun (r56 : D × (List D)) => (intD r56.1).bind fun i57 => if inR i57 then Res.ok (i57, r56.2) else Res.bad).bind fun (r58 : Int × (List D)) => (compS (lcTurn (γ := Unit) (δ := Unit) (ε := D × (List D)) (fun (b2 : (List D)) d3 => Res.ok ()) (fun (b2 : (List D)) (d3 : D) _ => Res.ok ()) (fun _ => true) (fun (b2 : (List D)) (d3 : D) _ _t => law_filled_q1 b1 b2 d3) (fun (b2 : (List D)) (d3 : D) _ _t => b2) (fun (b2 : (List D)) (d3 : D) _ _t (r59 : D × (List D)) => r59.2) (fun (r59 : D × (List D)) => r59.1)) (rngD 0 r58.1) r58.2).bind fun z60 => Res.ok (z60.2, z60.1)).bind fun (r61 : (List D) × (List D)) => Res.ok (r61.2, r61.1) else Res.ok (r48.2, a36)).bind fun (b62 : (List D) × (List D)) => (Res.ok ()).bind fun (_u63 : Unit) => (foldR (fun (b28 : (List D)) d12 => law_filled_q5 b28 d12) b62.2 b1.2.2).bind fun (b28 : (List D)) => ((Res.ok ()).bind fun _ => Res.ok ([] : List D)).bind fun (a64 : List D) => (((Res.ok g20.1).bind fun (a65 : D) => (Res.ok (D.str "evict")).bind fun (a66 : D) => opC .Eq a65 a66).bind fun (a67 : Bool) => if a67 then (((Res.ok ()).bind fun (_u68 : Unit) => ((Res.ok ()).bind fun (_u69 : Unit) => (Res.ok ()).bind fun (_n70 : Unit) => (((Res.ok ()).bind fun (_u71 : Unit) => (Res.ok g20.2).bind fun (a72 : D) => (opIndex (D.list b28) [a72]).bind fun (d73 : D) => Res.ok d73).bind fun (r74 : D) => (intD r74).bind fun i75 => Res.ok i75).bind fun (r76 : Int) => Res.ok (cutD b28 none (some r76))).bind fun (r77 : (List D)) => Res.ok (_u68, r77)).bind fun (q78 : Unit × (List D)) => (m_law_shuffled (b62.1, q78.2)).bind fun (b79 : (List D) × (List D)) => Res.ok (b79.1, b79.2)).bind fun (r80 : (List D) × (List D)) => Res.ok (r80.2, r80.1) else Res.ok (b62.1, a64)).bind fun (b21 : (List D) × (List D)) => ((Res.ok ()).bind fun (_u81 : Unit) => (((Res.ok ()).bind fun (_u82 : Unit) => (Res.ok ()).bind fun (_u83 : Unit) => if (b62.2).length + (b21.2).length ≤ sizeLine then Res.ok (b62.2 ++ b21.2) else Res.bad).bind fun (r84 : (List D)) => compM (fun (d16 : D) => law_filled_q3 d16) r84).bind fun (a85 : List D) => if (b1.2.1).length + (a85).length ≤ sizeLine then Res.ok (b1.2.1 ++ a85) else Res.bad).bind fun (r86 : (List D)) => (((Res.ok ()).bind fun (_u87 : Unit) => compO (fun (d22 : D) => law_filled_q4 g20 b21 d22) b28).bind fun (a88 : List D) => (Res.ok ()).bind fun (_u89 : Unit) => if (a88).length + (b21.2).length ≤ sizeLine then Res.ok (a88 ++ b21.2) else Res.bad).bind fun (r90 : (List D)) => (((Res.ok g20.1).bind fun (a91 : D) => (Res.ok (D.str "evict")).bind fun (a92 : D) => opC .NotEq a91 a92).bind fun (a93 : Bool) => if a93 then ((Res.ok ()).bind fun (_u94 : Unit) => ((Res.ok g20.2).bind fun (a95 : D) => Res.ok ([a95])).bind fun (r96 : (List D)) => if (r90).length + (r96).length ≤ sizeLine then Res.ok (r90 ++ r96) else Res.bad).bind fun (r97 : (List D)) => Res.ok r97 else Res.ok r90).bind fun (b98 : (List D)) => ((((Res.ok g20.1).bind fun (a99 : D) => (Res.ok g20.2).bind fun (a100 : D) => Res.ok (a99, a100)).bind fun (q101 : D × D) => Res.ok (D.tup [q101.1, q101.2])).bind fun (r102 : D) => (opAppend r86 [r102]).bind fun d103 => Res.ok (d103.1, d103.2)).bind fun (r104 : D × (List D)) => Res.ok (b21.1, r104.2, b98)
def m_law_filled (a : (List D) × (List D)) : Res ((List D) × (List D)) :=
  (((Res.ok ()).bind fun _ => Res.ok ([] : List D)).bind fun (a105 : List D) => (((Res.ok ()).bind fun _ => Res.ok ([] : List D)).bind fun (a106 : List D) => (((Res.ok ()).bind fun (_u107 : Unit) => (Res.ok (D.int 3)).bind fun (a108 : D) => Res.ok (_u107, a108)).bind fun (q109 : Unit × D) => (m_law_draw_v2 (a.1, q109.2)).bind fun (b110 : D × (List D)) => Res.ok (b110.1, b110.2)).bind fun (r111 : D × (List D)) => Res.ok (a106, r111)).bind fun (q112 : (List D) × D × (List D)) => Res.ok (a105, q112)).bind fun (q34 : (List D) × (List D) × D × (List D)) => (Res.ok ()).bind fun (_u113 : Unit) => (foldR (fun (b1 : (List D) × (List D) × (List D)) d35 => law_filled_q6 q34 b1 d35) a.2 (q34.2.2.2, q34.1, q34.2.1)).bind fun (b1 : (List D) × (List D) × (List D)) => (Res.ok ()).bind fun (a114 : Unit) => Res.ok (b1.2.1, b1.1)
end M
namespace M
open PySem L2 G
def law_first_wrong_q1 (b1 : (List (D × D))) (g2 : D × D × D) (d3 : D) : Res (Option D) :=
  (Res.ok ()).bind fun _ => iffO (((Res.ok ()).bind fun (_u4 : Unit) => (Res.ok d3).bind fun (a5 : D) => opDIx (D.dict b1) a5).bind fun (a6 : D) => ((Res.ok ()).bind fun (_u7 : Unit) => (Res.ok g2.2.2).bind fun (a8 : D) => opDIx (D.dict b1) a8).bind fun (a9 : D) => opC .Lt a6 a9) (Res.ok d3)
def law_first_wrong_q2 (b1 : (List (D × D))) (d10 : D) : Res (((List (D × D))) ⊕ Ex ((List (D × D))) (D)) :=
  (tup12 d10).bind fun (g2 : D × D × D) => ((Res.ok g2.2.1).bind fun (a11 : D) => (Res.ok (D.str "evict")).bind fun (a12 : D) => opC .Eq a11 a12).bind fun (a13 : Bool) => if a13 then ((compO (fun (d3 : D) => law_first_wrong_q1 b1 g2 d3) (keysD b1)).bind fun (a14 : List D) => ((Res.ok ()).bind fun _ => Res.ok ([] : List D)).bind fun (a15 : List D) => opC .NotEq (D.list a14) (D.list a15)).bind fun (a16 : Bool) => if a16 then ((Res.ok g2.1).bind fun (a17 : D) => Res.ok a17).bind fun (o18 : D) => Res.ok (Sum.inr (Ex.ret o18)) else ((Res.ok g2.2.2).bind fun (a19 : D) => (opDPop b1 [a19]).bind fun d20 => Res.ok (d20.1, d20.2)).bind fun (r21 : D × (List (D × D))) => Res.ok (Sum.inl r21.2) else (Res.ok g2.1).bind fun (a22 : D) => (Res.ok g2.2.2).bind fun (a23 : D) => (dputR b1 a23 a22).bind fun (r24 : List (D × D)) => Res.ok (Sum.inl r24)
def m_law_first_wrong (a : (List D)) : Res (D) :=
  (Res.ok ()).bind fun (_u25 : Unit) => (Res.ok ()).bind fun (_u26 : Unit) => (forD (fun (b1 : (List (D × D))) d10 => law_first_wrong_q2 b1 d10) (enumD a) []).bind (endR (fun (b1 : (List (D × D))) => (Res.ok D.non).bind fun (a27 : D) => Res.ok a27) (fun (o28 : D) => o28))
end M
namespace M
open PySem L2 G
def is_name_q1 (d1 : D) : Res (D) :=
  (Res.ok ()).bind fun _ => (((Res.ok d1).bind fun (a2 : D) => (Res.ok (D.str "abcdefghijklmnopqrstuvwxyz")).bind fun (a3 : D) => opC .In a2 a3).map D.bl)
def m_is_name (a : D) : Res (D) :=
  (orR ((((Res.ok a).bind fun (a4 : D) => isiD a4 "str").bind fun (a5 : Bool) => truthD (D.bl a5)).map (!·)) (((Res.ok (D.int 1)).bind fun (a6 : D) => ((Res.ok a).bind fun (a7 : D) => opLen [a7]).bind fun (a8 : D) => (opC .LtE a6 a8).bind fun k => if k then (Res.ok (D.int 8)).bind fun (a9 : D) => opC .LtE a8 a9 else Res.ok false).map (!·))).bind fun (a10 : Bool) => if a10 then ((Res.ok (D.bl false)).bind fun (a11 : D) => Res.ok a11).bind fun (o12 : D) => Res.ok o12 else ((((Res.ok a).bind fun (a13 : D) => iterD a13).bind fun (a14 : D × List D) => compM (fun (d1 : D) => is_name_q1 d1) a14.2).bind fun (a15 : List D) => opAll [(D.list a15)]).bind fun (a16 : D) => Res.ok a16
end M
namespace M
open PySem L2 G
def m_is_line (a : D) : Res (D) :=
  (orR ((((Res.ok a).bind fun (a1 : D) => isiD a1 "tuple").bind fun (a2 : Bool) => truthD (D.bl a2)).map (!·)) (orR (((Res.ok a).bind fun (a3 : D) => opLen [a3]).bind fun (a4 : D) => (Res.ok (D.int 2)).bind fun (a5 : D) => opC .NotEq a4 a5) (((((Res.ok a).bind fun (a6 : D) => (Res.ok (D.int 0)).bind fun (a7 : D) => opIx a6 a7).bind fun (a8 : D) => isiD a8 "str").bind fun (a9 : Bool) => truthD (D.bl a9)).map (!·)))).bind fun (a10 : Bool) => if a10 then ((Res.ok (D.bl false)).bind fun (a11 : D) => Res.ok a11).bind fun (o12 : D) => Res.ok o12 else (((andR (((Res.ok a).bind fun (a13 : D) => (Res.ok (D.int 0)).bind fun (a14 : D) => opIx a13 a14).bind fun (a15 : D) => (((Res.ok (D.str "load")).bind fun (a16 : D) => ((Res.ok (D.str "hit")).bind fun (a17 : D) => (Res.ok (D.str "evict")).bind fun (a18 : D) => Res.ok (a17, a18)).bind fun (q19 : D × D) => Res.ok (a16, q19)).bind fun (q20 : D × D × D) => Res.ok (D.tup [q20.1, q20.2.1, q20.2.2])).bind fun (r21 : D) => opC .In a15 r21) ((((Res.ok a).bind fun (a22 : D) => (Res.ok (D.int 1)).bind fun (a23 : D) => opIx a22 a23).bind fun (a24 : D) => (m_is_name a24).bind fun (b25 : D) => Res.ok b25).bind fun (r26 : D) => boolD r26)).map D.bl)).bind fun (a27 : D) => Res.ok a27
end M
namespace M
open PySem L2 G
def cached_behind_q1 (b1 : (List (D × D))) (d2 : D) : Res (((List (D × D))) ⊕ Ex ((List (D × D))) ((Option (List D)))) :=
  (tup2 d2).bind fun (g3 : D × D) => (((Res.ok g3.2).bind fun (a4 : D) => (Res.ok ()).bind fun (_u5 : Unit) => opDIn a4 (D.dict b1)).bind fun (a6 : Bool) => ((Res.ok g3.1).bind fun (a7 : D) => (Res.ok (D.str "load")).bind fun (a8 : D) => opC .Eq a7 a8).bind fun (a9 : Bool) => opC .Eq (D.bl a6) (D.bl a9)).bind fun (a10 : Bool) => if a10 then ((Res.ok D.non).bind fun a11 => Res.ok (none : Option (List D))).bind fun (o12 : (Option (List D))) => Res.ok (Sum.inr (Ex.ret o12)) else ((Res.ok g3.1).bind fun (a13 : D) => (Res.ok (D.str "load")).bind fun (a14 : D) => opC .Eq a13 a14).bind fun (a15 : Bool) => if a15 then (Res.ok (D.bl true)).bind fun (a16 : D) => (Res.ok g3.2).bind fun (a17 : D) => (dputR b1 a17 a16).bind fun (r18 : List (D × D)) => Res.ok (Sum.inl r18) else ((Res.ok g3.1).bind fun (a19 : D) => (Res.ok (D.str "evict")).bind fun (a20 : D) => opC .Eq a19 a20).bind fun (a21 : Bool) => if a21 then (Res.ok g3.2).bind fun (a22 : D) => (ddelR b1 a22).bind fun (r23 : List (D × D)) => Res.ok (Sum.inl r23) else Res.ok (Sum.inl b1)
def m_cached_behind (a : (List D) × D) : Res ((Option (List D))) :=
  (((Res.ok a.2).bind fun (a24 : D) => iterD a24).bind fun (a25 : D × List D) => compD (dcTurn (fun (d26 : D) => Res.ok ()) (fun (d26 : D) _ => Res.ok true) (fun (d26 : D) _ => Res.ok d26) (fun (d26 : D) _ => Res.ok (D.bl true))) a25.2).bind fun (a27 : List (D × D)) => (Res.ok ()).bind fun (_u28 : Unit) => (forD (fun (b1 : (List (D × D))) d2 => cached_behind_q1 b1 d2) a.1 a27).bind (endR (fun (b1 : (List (D × D))) => ((Res.ok ()).bind fun (_u29 : Unit) => (opSorted [(D.dict b1)]).bind fun (d30 : List D) => Res.ok d30).bind fun (r31 : (List D)) => Res.ok (some r31)) (fun (o32 : (Option (List D))) => o32))
end M
namespace M
open PySem L2 G
def is_log_q1 (d1 : D) : Res (D) :=
  (Res.ok ()).bind fun _ => (Res.ok d1).bind fun (a2 : D) => (m_is_line a2).bind fun (b3 : D) => Res.ok b3
def m_is_log (a : (List D)) : Res (D) :=
  (orR ((((Res.ok ()).bind fun (_u4 : Unit) => isiD (D.list a) "list").bind fun (a5 : Bool) => truthD (D.bl a5)).map (!·)) (orR (((Res.ok ()).bind fun (_u6 : Unit) => opLen [(D.list a)]).bind fun (a7 : D) => (Res.ok (D.int 40)).bind fun (a8 : D) => opC .Gt a7 a8) (((((Res.ok ()).bind fun (_u9 : Unit) => compM (fun (d1 : D) => is_log_q1 d1) a).bind fun (a10 : List D) => opAll [(D.list a10)]).bind fun (a11 : D) => truthD a11).map (!·)))).bind fun (a12 : Bool) => if a12 then ((Res.ok (D.bl false)).bind fun (a13 : D) => Res.ok a13).bind fun (o14 : D) => Res.ok o14 else (((((Res.ok ()).bind fun (_u15 : Unit) => (m_cached_behind (a, (D.tup []))).bind fun (b16 : Option (List D)) => Res.ok b16).bind fun (r17 : (Option (List D))) => (Res.ok D.non).bind fun (a18 : D) => opC .IsNot (optD r17) a18).map D.bl)).bind fun (a19 : D) => Res.ok a19
end M
namespace M
open PySem L2 G
def m_require_log (a : (List D)) : Res (Unit) :=
  ((((Res.ok ()).bind fun (_u1 : Unit) => (m_is_log a).bind fun (b2 : D) => Res.ok b2).bind fun (r3 : D) => truthD r3).map (!·)).bind fun (a4 : Bool) => if a4 then (Res.ok (D.str "not a log")).bind fun _ => Res.exc ⟨"InvalidLog", none⟩ else Res.ok ()
end M
namespace M
open PySem L2 G
def after_line_q1 (a : (List D) × D × D) (d1 : D) : Res (Option D) :=
  (Res.ok ()).bind fun _ => iffO ((Res.ok d1).bind fun (a2 : D) => (Res.ok a.2.2).bind fun (a3 : D) => opC .NotEq a2 a3) (Res.ok d1)
def m_after_line (a : (List D) × D × D) : Res ((List D)) :=
  ((Res.ok ()).bind fun (_u4 : Unit) => compO (fun (d1 : D) => after_line_q1 a d1) a.1).bind fun (a5 : List D) => (((Res.ok a.2.1).bind fun (a6 : D) => (Res.ok (D.str "evict")).bind fun (a7 : D) => opC .Eq a6 a7).bind fun (a8 : Bool) => if a8 then (Res.ok ()).bind fun (a9 : Unit) => Res.ok a5 else ((Res.ok ()).bind fun (_u10 : Unit) => ((Res.ok a.2.2).bind fun (a11 : D) => Res.ok ([a11])).bind fun (r12 : (List D)) => if (a5).length + (r12).length ≤ sizeLine then Res.ok (a5 ++ r12) else Res.bad).bind fun (r13 : (List D)) => Res.ok r13).bind fun (r14 : (List D)) => Res.ok r14
end M
namespace M
open PySem L2 G
def first_wrong_in_q1 (b1 : (List D)) (d2 : D) : Res (((List D)) ⊕ Ex ((List D)) (D)) :=
  (tup12 d2).bind fun (g3 : D × D × D) => (andR ((Res.ok g3.2.1).bind fun (a4 : D) => (Res.ok (D.str "evict")).bind fun (a5 : D) => opC .Eq a4 a5) (((Res.ok ()).bind fun (_u6 : Unit) => (Res.ok (D.int 0)).bind fun (a7 : D) => opIx (D.list b1) a7).bind fun (a8 : D) => (Res.ok g3.2.2).bind fun (a9 : D) => opC .NotEq a8 a9)).bind fun (a10 : Bool) => if a10 then ((Res.ok g3.1).bind fun (a11 : D) => Res.ok a11).bind fun (o12 : D) => Res.ok (Sum.inr (Ex.ret o12)) else (((Res.ok ()).bind fun (_u13 : Unit) => ((Res.ok g3.2.1).bind fun (a14 : D) => (Res.ok g3.2.2).bind fun (a15 : D) => Res.ok (a14, a15)).bind fun (q16 : D × D) => Res.ok (_u13, q16)).bind fun (q17 : Unit × D × D) => (m_after_line (b1, q17.2.1, q17.2.2)).bind fun (b18 : List D) => Res.ok b18).bind fun (r19 : (List D)) => Res.ok (Sum.inl r19)
def m_first_wrong_in (a : (List D)) : Res (D) :=
  ((Res.ok ()).bind fun _ => Res.ok ([] : List D)).bind fun (a20 : List D) => (Res.ok ()).bind fun (_u21 : Unit) => (forD (fun (b1 : (List D)) d2 => first_wrong_in_q1 b1 d2) (enumD a) a20).bind (endR (fun (b1 : (List D)) => (Res.ok D.non).bind fun (a22 : D) => Res.ok a22) (fun (o23 : D) => o23))
end M
namespace M
open PySem L2 G
def m_first_wrong (a : (List D)) : Res (D) :=
  ((Res.ok ()).bind fun (_u1 : Unit) => (m_require_log a).bind fun (b2 : Unit) => Res.ok ()).bind fun (r3 : Unit) => ((Res.ok ()).bind fun (_u4 : Unit) => (m_first_wrong_in a).bind fun (b5 : D) => Res.ok b5).bind fun (r6 : D) => Res.ok r6
end M
namespace M
open PySem L2 G
def m_law_right_v3 (a : (List D)) : Res (D) :=
  ((Res.ok ()).bind fun (_u1 : Unit) => opRepr [(D.list a)]).bind fun (a2 : D) => ((Res.ok ()).bind fun (_u3 : Unit) => (m_law_first_wrong a).bind fun (b4 : D) => Res.ok b4).bind fun (r5 : D) => (((andR (((((Res.ok ()).bind fun (_u6 : Unit) => (m_first_wrong a).bind fun (b7 : D) => Res.ok b7).bind fun (r8 : D) => ((Res.ok ()).bind fun (_u9 : Unit) => (m_first_wrong a).bind fun (b10 : D) => Res.ok b10).bind fun (r11 : D) => Res.ok (r8, r11)).bind fun (q12 : D × D) => (opRepr [.list [q12.1, q12.2]]).bind fun (d13 : D) => Res.ok d13).bind fun (r14 : D) => (((Res.ok r5).bind fun (a15 : D) => (Res.ok r5).bind fun (a16 : D) => Res.ok (a15, a16)).bind fun (q17 : D × D) => (opRepr [.list [q17.1, q17.2]]).bind fun (d18 : D) => Res.ok d18).bind fun (r19 : D) => opC .Eq r14 r19) (((Res.ok ()).bind fun (_u20 : Unit) => opRepr [(D.list a)]).bind fun (a21 : D) => (Res.ok a2).bind fun (a22 : D) => opC .Eq a21 a22)).map D.bl)).bind fun (a23 : D) => Res.ok a23
end M
namespace M
open PySem L2 G
def law_v3_q1 (b1 : (List D)) (d2 : D) : Res (((List D)) ⊕ Ex ((List D)) (D)) :=
  (((Res.ok ()).bind fun (_u3 : Unit) => ((((Res.ok (D.int 8)).bind fun (a4 : D) => (Res.ok (D.int 40)).bind fun (a5 : D) => Res.ok (a4, a5)).bind fun (q6 : D × D) => Res.ok ([q6.1, q6.2])).bind fun (r7 : (List D)) => (((Res.ok ()).bind fun (_u8 : Unit) => (Res.ok (D.int 2)).bind fun (a9 : D) => Res.ok (_u8, a9)).bind fun (q10 : Unit × D) => (m_law_draw_v2 (b1, q10.2)).bind fun (b11 : D × (List D)) => Res.ok (b11.1, b11.2)).bind fun (r12 : D × (List D)) => (opIx (D.list r7) r12.1).bind fun (d13 : D) => Res.ok (d13, r12.2)).bind fun (r14 : D × (List D)) => Res.ok (_u3, r14)).bind fun (q15 : Unit × D × (List D)) => (m_law_log (q15.2.2, q15.2.1)).bind fun (b16 : (List D) × (List D)) => Res.ok (b16.1, b16.2)).bind fun (r17 : (List D) × (List D)) => ((((Res.ok ()).bind fun (_u18 : Unit) => (Res.ok ()).bind fun (_u19 : Unit) => Res.ok (_u18, _u19)).bind fun (q20 : Unit × Unit) => (m_law_filled (r17.2, r17.1)).bind fun (b21 : (List D) × (List D)) => Res.ok (b21.1, b21.2)).bind fun (r22 : (List D) × (List D)) => (Res.ok ()).bind fun (_n23 : Unit) => ((Res.ok (D.int 40)).bind fun (a24 : D) => (intD a24).bind fun i25 => Res.ok i25).bind fun (r26 : Int) => Res.ok ((cutD r22.1 none (some r26)), r22.2)).bind fun (r27 : (List D) × (List D)) => (orR ((((Res.ok ()).bind fun (_u28 : Unit) => (m_law_right_v3 r17.1).bind fun (b29 : D) => Res.ok b29).bind fun (r30 : D) => truthD r30).map (!·)) (orR ((((Res.ok ()).bind fun (_u31 : Unit) => (m_law_right_v3 r27.1).bind fun (b32 : D) => Res.ok b32).bind fun (r33 : D) => truthD r33).map (!·)) (((Res.ok ()).bind fun (_u34 : Unit) => (m_first_wrong r27.1).bind fun (b35 : D) => Res.ok b35).bind fun (r36 : D) => (Res.ok D.non).bind fun (a37 : D) => opC .IsNot r36 a37))).bind fun (a38 : Bool) => if a38 then ((Res.ok (D.bl false)).bind fun (a39 : D) => Res.ok a39).bind fun (o40 : D) => Res.ok (Sum.inr (Ex.ret o40)) else ((Res.ok ()).bind fun (_u41 : Unit) => ((Res.ok ()).bind fun _ => Res.ok ([] : List D)).bind fun (a42 : List D) => opC .NotEq (D.list r17.1) (D.list a42)).bind fun (a43 : Bool) => if a43 then ((opPop r17.1 []).bind fun d44 => Res.ok (d44.1, d44.2)).bind fun (r45 : D × (List D)) => (tup2 r45.1).bind fun (g46 : D × D) => ((((Res.ok ()).bind fun (_u47 : Unit) => (m_law_right_v3 r45.2).bind fun (b48 : D) => Res.ok b48).bind fun (r49 : D) => truthD r49).map (!·)).bind fun (a50 : Bool) => if a50 then ((Res.ok (D.bl false)).bind fun (a51 : D) => Res.ok a51).bind fun (o52 : D) => Res.ok (Sum.inr (Ex.ret o52)) else (((Res.ok (D.int 0)).bind fun (a53 : D) => (((Res.ok (D.str "load")).bind fun (a54 : D) => (Res.ok (D.str "strange")).bind fun (a55 : D) => Res.ok (a54, a55)).bind fun (q56 : D × D) => Res.ok (D.tup [q56.1, q56.2])).bind fun (r57 : D) => Res.ok (a53, r57)).bind fun (q58 : D × D) => (opInsert r45.2 [q58.1, q58.2]).bind fun d59 => Res.ok (d59.1, d59.2)).bind fun (r60 : D × (List D)) => ((((Res.ok (D.str "evict")).bind fun (a61 : D) => (Res.ok (D.str "strange")).bind fun (a62 : D) => Res.ok (a61, a62)).bind fun (q63 : D × D) => Res.ok (D.tup [q63.1, q63.2])).bind fun (r64 : D) => (opAppend r60.2 [r64]).bind fun d65 => Res.ok (d65.1, d65.2)).bind fun (r66 : D × (List D)) => (andR (((Res.ok ()).bind fun (_u67 : Unit) => opLen [(D.list r66.2)]).bind fun (a68 : D) => (Res.ok (D.int 40)).bind fun (a69 : D) => opC .LtE a68 a69) ((((Res.ok ()).bind fun (_u70 : Unit) => (m_law_right_v3 r66.2).bind fun (b71 : D) => Res.ok b71).bind fun (r72 : D) => truthD r72).map (!·))).bind fun (a73 : Bool) => if a73 then (Res.ok (D.bl false)).bind fun (a74 : D) => Res.ok (Sum.inr (Ex.ret a74)) else Res.ok (Sum.inl r27.2) else Res.ok (Sum.inl r27.2)
def law_v3_q2 (a : (List D)) (b75 : Unit) (d76 : D) : Res ((Unit) ⊕ Ex (Unit) (D)) :=
  (((Res.ok ()).bind fun (_u77 : Unit) => (Res.ok d76).bind fun (a78 : D) => Res.ok (_u77, a78)).bind fun (q79 : Unit × D) => (m_law_pool (a, q79.2)).bind fun (b80 : List D) => Res.ok b80).bind fun (r81 : (List D)) => ((Res.ok (D.int 6)).bind fun (a82 : D) => (intD a82).bind fun i83 => if inR i83 then Res.ok i83 else Res.bad).bind fun (r84 : Int) => (forD (fun (b1 : (List D)) d2 => law_v3_q1 b1 d2) (rngD 0 r84) r81).bind (endR (fun (b1 : (List D)) => Res.ok (Sum.inl ())) (fun (o85 : D) => (Sum.inr (Ex.ret o85))))
def m_law_v3 (a : (List D)) : Res (D) :=
  (((Res.ok (D.int 1)).bind fun (a86 : D) => ((Res.ok (D.int 6)).bind fun (a87 : D) => ((Res.ok ()).bind fun (_u88 : Unit) => Res.ok (.int (a).length)).bind fun (a89 : D) => opMin [a87, a89]).bind fun (a90 : D) => opMax [a86, a90]).bind fun (a91 : D) => (intD a91).bind fun i92 => if inR i92 then Res.ok i92 else Res.bad).bind fun (r93 : Int) => (forD (fun (b75 : Unit) d76 => law_v3_q2 a b75 d76) (rngD 0 r93) ()).bind (endR (fun (b75 : Unit) => (((andR ((((Res.ok ()).bind fun _ => Res.ok ([] : List D)).bind fun (a94 : List D) => (m_first_wrong a94).bind fun (b95 : D) => Res.ok b95).bind fun (r96 : D) => (Res.ok D.non).bind fun (a97 : D) => opC .Is r96 a97) (((((((Res.ok (D.str "load")).bind fun (a98 : D) => (Res.ok (D.str "a")).bind fun (a99 : D) => Res.ok (a98, a99)).bind fun (q100 : D × D) => Res.ok (D.tup [q100.1, q100.2])).bind fun (r101 : D) => ((((Res.ok (D.str "load")).bind fun (a102 : D) => (Res.ok (D.str "b")).bind fun (a103 : D) => Res.ok (a102, a103)).bind fun (q104 : D × D) => Res.ok (D.tup [q104.1, q104.2])).bind fun (r105 : D) => (((Res.ok (D.str "evict")).bind fun (a106 : D) => (Res.ok (D.str "b")).bind fun (a107 : D) => Res.ok (a106, a107)).bind fun (q108 : D × D) => Res.ok (D.tup [q108.1, q108.2])).bind fun (r109 : D) => Res.ok (r105, r109)).bind fun (q110 : D × D) => Res.ok (r101, q110)).bind fun (q111 : D × D × D) => Res.ok ([q111.1, q111.2.1, q111.2.2])).bind fun (r112 : (List D)) => (m_first_wrong r112).bind fun (b113 : D) => Res.ok b113).bind fun (r114 : D) => (Res.ok (D.int 2)).bind fun (a115 : D) => opC .Eq r114 a115)).map D.bl)).bind fun (a116 : D) => Res.ok a116) (fun (o117 : D) => o117))
end M
namespace K07
open PySem L2 G M
def topS (i : Nat) : Stmt := PySem.Challenge.pw_hiddenhits_k07_first_wrong_eviction.main.body.getD i (.Pass ⟨0, 0, 0, 0⟩)
structure Tx (K : PySem.W.Frag) (mg : Str → Option Value) : Prop where
  b_abs : mg "abs" = none
  b_all : mg "all" = none
  b_enumerate : mg "enumerate" = none
  b_isinstance : mg "isinstance" = none
  b_len : mg "len" = none
  b_list : mg "list" = none
  b_max : mg "max" = none
  b_min : mg "min" = none
  b_range : mg "range" = none
  b_repr : mg "repr" = none
  b_sorted : mg "sorted" = none
  b_str : mg "str" = none
  b_tuple : mg "tuple" = none
  g_EVICT_histories : ∃ t, mg "EVICT_histories" = some (.str "evict" t)
  g_EVICT_logs : ∃ t, mg "EVICT_logs" = some (.str "evict" t)
  g_HIT : ∃ t, mg "HIT" = some (.str "hit" t)
  g_LETTERS : ∃ t, mg "LETTERS" = some (.str "abcdefghijklmnopqrstuvwxyz" t)
  g_LOAD : ∃ t, mg "LOAD" = some (.str "load" t)
  g_MOST_LETTERS : ∃ t, mg "MOST_LETTERS" = some (.int 8 t)
  g_MOST_LINES : ∃ t, mg "MOST_LINES" = some (.int 40 t)
  x_InvalidLog : ExC K mg "InvalidLog"
  ok : True
/-! ### _law_pool -/
def k__law_pool (pa : Nat → Addr) : (List D) → Out := fun b => .rt [.un, .un, .un] (.ow none (.list b))
abbrev sp__law_pool (K : PySem.W.Frag) (mg : Str → Option Value) : Sp := spF K mg 2 (fun a : (List D) × D => [.sc a.1, .v a.2]) [] m_law_pool (fun b : (List D) => [.un, .un]) (fun b => .ow none (.list b))
theorem sc__law_pool : FnScope ["script", "at", "cell"] ["script", "at"] (defScope (topS 21)) := ⟨rfl, rfl, rfl, by decide +kernel, rfl, by decide +kernel, by decide +kernel⟩
theorem w__law_pool {P : Program} {w : World} {K : PySem.W.Frag} {mg : Str → Option Value} {base : Heap} (T : Tx K mg) {f : Addr} {fd : FuncData} (F : FnX K "_law_pool" "_law_pool" (topS 21) f fd) :
    FnG P w K mg base 1 f fd ["script", "at"] (sp__law_pool K mg) := by
  refine fn_mir (K0 := k__law_pool) (Sr := fun pa b => [.un, .un, .un]) F sc__law_pool 1 rfl ?_ (fun _ _ => .inl rfl) (SrL.all fun a pa b => (.un (.un .nil))) (fun _ => rfl) (fun _ _ => Nat.le_of_ble_eq_true rfl) (fun _ => rfl)
  intro X a pa w0 hK hmg hN hc hgd hr hX tk hw
  obtain ⟨cdv, A, outer, s, H, E, rfl⟩ := hX
  obtain ⟨W0, S0'⟩ := w0
  cases hw
  have hu := huG hr
  have nd := sc__law_pool.nd
  exact es_S [.sc a.1, .v a.2, .un] (es_asg 2 (ev_ifP (et_cmpP hu (ev_v 1) (fun (a1 : D) => (ev_lenS T.b_len (ev_al 0)))) (ev_ixSP (ev_al 0) (fun (_u5 : Unit) => (ev_v 1))) ev_int) (fun (a9 : D) => (es_S [.sc a.1, .v a.2, .v a9] (es_retW (Sr := fun (r31 : (List D)) => [.un, .un, .un]) (fun (r31 : (List D)) => r31) (ev_lst (γ := (List D)) (fun (r31 : (List D)) => [.sc a.1, .v a.2, .v a9]) (fun (r31 : (List D)) => .ow none (.list r31)) (fun (q29 : D × D × D) (l30 : List D) => l30) (fun (q29 : D × D × D) => [q29.1, q29.2.1, q29.2.2]) (ea_cons (Rs := fun (q29 : D × D × D) => [.v q29.1, .v q29.2.1, .v q29.2.2]) (fun (q29 : D × D × D) => [.sc a.1, .v a.2, .v a9]) (fun (a17 : D) (q28 : D × D) => (a17, q28)) (ev_f2 (op := opMax) (max_ok hc) max_ne T.b_max ev_int (fun (a10 : D) => (ev_binP (ev_f1 (op := opAbs) abs_ok abs_ne T.b_abs (ev_v 2)) (fun (a12 : D) => (ev_binP ev_int (fun (a13 : D) => ev_int)))))) (fun (a17 : D) => (ea_cons (Rs := fun (q28 : D × D) => [.v q28.1, .v q28.2]) (fun (q28 : D × D) => [.sc a.1, .v a.2, .v a9]) (fun (a26 : D) (a27 : D) => (a26, a27)) (ev_binP (ev_binP (ev_v 2) (fun (a18 : D) => ev_int)) (fun (a20 : D) => (ev_binP ev_int (fun (a21 : D) => (ev_binP (ev_v 1) (fun (a22 : D) => ev_int)))))) (fun (a26 : D) => (ea_one ev_int)))))) (fun (r31 : (List D)) => (WL.cons (.un _) (.cons (.un _) (.cons (.un _) .nil))))))) nd)
/-! ### _law_draw -/
def k__law_draw (pa : Nat → Addr) : D × (List D) → Out := fun b => .rt [.ow (some (pa 0)) (.list b.2), .un, .un, .un] (.v b.1)
abbrev sp__law_draw (K : PySem.W.Frag) (mg : Str → Option Value) : Sp := spF K mg 2 (fun a : (List D) × D => [.ow none (.list a.1), .v a.2]) [0] m_law_draw_v2 (fun b : D × (List D) => [.ow none (.list b.2), .un]) (fun b => .v b.1)
theorem sc__law_draw : FnScope ["pool", "many", "drawn", "mixed"] ["pool", "many"] (defScope (topS 22)) := ⟨rfl, rfl, rfl, by decide +kernel, rfl, by decide +kernel, by decide +kernel⟩
theorem w__law_draw {P : Program} {w : World} {K : PySem.W.Frag} {mg : Str → Option Value} {base : Heap} (T : Tx K mg) {f : Addr} {fd : FuncData} (F : FnX K "_law_draw" "_law_draw" (topS 22) f fd) :
    FnG P w K mg base 1 f fd ["pool", "many"] (sp__law_draw K mg) := by
  refine fn_mir (K0 := k__law_draw) (Sr := fun pa b => [.ow (some (pa 0)) (.list b.2), .un, .un, .un]) F sc__law_draw 2 rfl ?_ (fun _ _ => .inl rfl) (SrL.all fun a pa b => (.io (.un .nil))) (fun _ => rfl) (fun _ _ => Nat.le_of_ble_eq_true rfl) (fun _ => rfl)
  intro X a pa w0 hK hmg hN hc hgd hr hX tk hw
  obtain ⟨cdv, A, outer, s, H, E, rfl⟩ := hX
  obtain ⟨W0, S0'⟩ := w0
  cases hw
  have hu := huG hr
  have nd := sc__law_draw.nd
  exact es_S [.ow (some (pa 0)) (.list a.1), .v a.2, .un, .un] (es_ifx (ε := D × (List D)) (KE := (k__law_draw pa)) (fun o55 => o55) (et_cmpP hu (ev_ixP (ev_al 0) (fun (_u1 : Unit) => ev_int)) (fun (a3 : D) => ev_int)) (fun (a5 : Bool) => (es_S [.ow (some (pa 0)) (.list a.1), .v a.2, .un, .un] (es_asg 2 (ev_binP (ev_ixP (ev_al 0) (fun (_u6 : Unit) => ev_int)) (fun (a8 : D) => (ev_v 1))) (fun (a10 : D) => (es_S [.ow (some (pa 0)) (.list a.1), .v a.2, .v a10, .un] (es_set 0 (fun _ _ => (some (pa 0))) (fun (a15 : D) (a16 : D) => a.1) (fun (a15 : D) => a15) (fun (a15 : D) (a16 : D) => a16) (ev_binP (ev_ixP (ev_al 0) (fun (_u11 : Unit) => ev_int)) (fun (a13 : D) => (ev_v 1))) (fun (a15 : D) => ev_int) (fun (a15 : D) (a16 : D) (r17 : List D) => (es_S [.ow (some (pa 0)) (.list r17), .v a.2, .v a10, .un] (es_retW (Sr := fun (a18 : D) => [.ow (some (pa 0)) (.list r17), .un, .un, .un]) (fun (a18 : D) => (a18, r17)) (ev_v 2) (fun (a18 : D) => (WL.cons (.rfl _) (.cons (.un _) (.cons (.un _) (.cons (.rfl _) .nil))))))))))) nd))) (fun (a5 : Bool) => (es_S [.ow (some (pa 0)) (.list a.1), .v a.2, .un, .un] (es_set 0 (fun _ _ => (some (pa 0))) (fun (a23 : D) (a24 : D) => a.1) (fun (a23 : D) => a23) (fun (a23 : D) (a24 : D) => a24) (ev_binP (ev_ixP (ev_al 0) (fun (_u19 : Unit) => ev_int)) (fun (a21 : D) => ev_int)) (fun (a23 : D) => ev_int) (fun (a23 : D) (a24 : D) (r25 : List D) => (es_S [.ow (some (pa 0)) (.list r25), .v a.2, .un, .un] (es_asg 3 (ev_binP (ev_binP (ev_binP (ev_ixP (ev_al 0) (fun (_u26 : Unit) => ev_int)) (fun (a28 : D) => (ev_binP ev_int (fun (a29 : D) => (ev_ixP (ev_al 0) (fun (_u30 : Unit) => ev_int)))))) (fun (a34 : D) => ev_int)) (fun (a36 : D) => ev_int)) (fun (a38 : D) => (es_S [.ow (some (pa 0)) (.list r25), .v a.2, .un, .v a38] (es_asg 3 (ev_binP (ev_binP (ev_binP (ev_v 3) (fun (a39 : D) => (ev_binP ev_int (fun (a40 : D) => (ev_ixP (ev_al 0) (fun (_u41 : Unit) => ev_int)))))) (fun (a45 : D) => ev_int)) (fun (a47 : D) => ev_int)) (fun (a49 : D) => (es_S [.ow (some (pa 0)) (.list r25), .v a.2, .un, .v a49] (es_retW (Sr := fun (a54 : D) => [.ow (some (pa 0)) (.list r25), .un, .un, .un]) (fun (a54 : D) => (a54, r25)) (ev_binP (ev_binP (ev_v 3) (fun (a50 : D) => ev_int)) (fun (a52 : D) => (ev_v 1))) (fun (a54 : D) => (WL.cons (.rfl _) (.cons (.un _) (.cons (.rfl _) (.cons (.un _) .nil)))))))) nd))) nd)))))))
/-! ### _law_names -/
def k__law_names (pa : Nat → Addr) : (List D) → Out := fun b => .rt [.un, .un] (.ow none (.list b))
abbrev sp__law_names (K : PySem.W.Frag) (mg : Str → Option Value) : Sp := spF K mg 0 (fun a : Unit => []) [] m_law_names (fun b : (List D) => []) (fun b => .ow none (.list b))
theorem sc__law_names : FnScope ["letters", "size"] [] (defScope (topS 24)) := ⟨rfl, rfl, rfl, by decide +kernel, rfl, by decide +kernel, by decide +kernel⟩
theorem w__law_names {P : Program} {w : World} {K : PySem.W.Frag} {mg : Str → Option Value} {base : Heap} (T : Tx K mg) {f : Addr} {fd : FuncData} (F : FnX K "_law_names" "_law_names" (topS 24) f fd) :
    FnG P w K mg base 1 f fd [] (sp__law_names K mg) := by
  refine fn_mir (K0 := k__law_names) (Sr := fun pa b => [.un, .un]) F sc__law_names 2 rfl ?_ (fun _ _ => .inl rfl) (SrL.all fun a pa b => .nil) (fun _ => rfl) (fun _ _ => Nat.le_of_ble_eq_true rfl) (fun _ => rfl)
  intro X a pa w0 hK hmg hN hc hgd hr hX tk hw
  obtain ⟨cdv, A, outer, s, H, E, rfl⟩ := hX
  obtain ⟨W0, S0'⟩ := w0
  cases hw
  have hu := huG hr
  have nd := sc__law_names.nd
  exact es_S [.un, .un] (es_asg 0 (ev_tn1 (γ := (List D)) (op := opListS) (fun (r3 : (List D)) => [.un, .un]) (fun (r3 : (List D)) => .ow none (.list r3)) (fun (a1 : D) (d2 : List D) => d2) (fun (a1 : D) => a1) (listS_ok hc) opListS_ne T.b_list ev_str) (fun (r3 : (List D)) => (es_S [.ow none (.list r3), .un] (es_retW (Sr := fun (r36 : (List D)) => [.un, .un]) (fun (r36 : (List D)) => r36) (ev_cat (γ := (List D)) (fun (r36 : (List D)) => [.ow none (.list r3), .un]) (fun (r36 : (List D)) => .ow none (.list r36)) (fun (r23 : (List D)) (r34 : (List D)) (d35 : List D) => d35) (fun (r23 : (List D)) (r34 : (List D)) => r23) (fun (r23 : (List D)) (r34 : (List D)) => r34) (ev_cat (γ := (List D)) (fun (r23 : (List D)) => [.ow none (.list r3), .un]) (fun (r23 : (List D)) => .ow none (.list r23)) (fun (r11 : (List D)) (a21 : List D) (d22 : List D) => d22) (fun (r11 : (List D)) (a21 : List D) => r11) (fun (r11 : (List D)) (a21 : List D) => a21) (ev_cat (γ := (List D)) (fun (r11 : (List D)) => [.ow none (.list r3), .un]) (fun (r11 : (List D)) => .ow none (.list r11)) (fun (_u4 : Unit) (r9 : (List D)) (d10 : List D) => d10) (fun (_u4 : Unit) (r9 : (List D)) => r3) (fun (_u4 : Unit) (r9 : (List D)) => r9) (ev_al 0) (fun (_u4 : Unit) => (ev_lst (γ := (List D)) (fun (r9 : (List D)) => [.ow none (.list r3), .un]) (fun (r9 : (List D)) => .ow none (.list r9)) (fun (q7 : D × D) (l8 : List D) => l8) (fun (q7 : D × D) => [q7.1, q7.2]) (ea_cons (Rs := fun (q7 : D × D) => [.v q7.1, .v q7.2]) (fun (q7 : D × D) => [.ow none (.list r3), .un]) (fun (a5 : D) (a6 : D) => (a5, a6)) ev_str (fun (a5 : D) => (ea_one ev_str)))))) (fun (r11 : (List D)) => (ev_k (ek_compM [("size", 1)] hc nd (ei_range2 (γ := Int × Int) (fun (r20 : Int × Int) => [.ow none (.list r3), .un]) (fun (a16 : D) (a17 : D) i18 j19 => (i18, j19)) (fun (r20 : Int × Int) => rngD r20.1 r20.2) (fun (a16 : D) (a17 : D) => a16) (fun (a16 : D) (a17 : D) => a17) T.b_range ev_int (fun (a16 : D) => ev_int)) (fun _ _ _ _ _ (d12 : D) => (eg_name 1 (by exact nd))) (fun _ _ _ _ _ (d12 : D) _ (r20 : Int × Int) _ => (ev_binP ev_str (fun (a13 : D) => (ev_v 1)))))))) (fun (r23 : (List D)) => (ev_lst (γ := (List D)) (fun (r34 : (List D)) => [.ow none (.list r3), .un]) (fun (r34 : (List D)) => .ow none (.list r34)) (fun (q32 : D × D × D × D × D) (l33 : List D) => l33) (fun (q32 : D × D × D × D × D) => [q32.1, q32.2.1, q32.2.2.1, q32.2.2.2.1, q32.2.2.2.2]) (ea_cons (Rs := fun (q32 : D × D × D × D × D) => [.v q32.1, .v q32.2.1, .v q32.2.2.1, .v q32.2.2.2.1, .v q32.2.2.2.2]) (fun (q32 : D × D × D × D × D) => [.ow none (.list r3), .un]) (fun (a24 : D) (q31 : D × D × D × D) => (a24, q31)) ev_str (fun (a24 : D) => (ea_cons (Rs := fun (q31 : D × D × D × D) => [.v q31.1, .v q31.2.1, .v q31.2.2.1, .v q31.2.2.2]) (fun (q31 : D × D × D × D) => [.ow none (.list r3), .un]) (fun (a25 : D) (q30 : D × D × D) => (a25, q30)) ev_str (fun (a25 : D) => (ea_cons (Rs := fun (q30 : D × D × D) => [.v q30.1, .v q30.2.1, .v q30.2.2]) (fun (q30 : D × D × D) => [.ow none (.list r3), .un]) (fun (a26 : D) (q29 : D × D) => (a26, q29)) ev_str (fun (a26 : D) => (ea_cons (Rs := fun (q29 : D × D) => [.v q29.1, .v q29.2]) (fun (q29 : D × D) => [.ow none (.list r3), .un]) (fun (a27 : D) (a28 : D) => (a27, a28)) ev_str (fun (a27 : D) => (ea_one ev_str)))))))))))) (fun (r36 : (List D)) => (WL.cons (.un _) (.cons (.rfl _) .nil)))))) nd)
/-! ### _law_shuffled -/
def k__law_shuffled (pa : Nat → Addr) : (List D) × (List D) → Out := fun b => .rt [.ow (some (pa 0)) (.list b.2), .un, .un, .un] (.ow none (.list b.1))
abbrev sp__law_shuffled (K : PySem.W.Frag) (mg : Str → Option Value) : Sp := spF K mg 2 (fun a : (List D) × (List D) => [.ow none (.list a.1), .rd (.list a.2)]) [0] m_law_shuffled (fun b : (List D) × (List D) => [.ow none (.list b.2), .un]) (fun b => .ow none (.list b.1))
theorem sc__law_shuffled : FnScope ["pool", "things", "left", "step"] ["pool", "things"] (defScope (topS 23)) := ⟨rfl, rfl, rfl, by decide +kernel, rfl, by decide +kernel, by decide +kernel⟩
theorem w__law_shuffled {P : Program} {w : World} {K : PySem.W.Frag} {mg : Str → Option Value} {base : Heap} (T : Tx K mg) (d__law_draw : DefD P w K mg base 1 "_law_draw" 2 [] (sp__law_draw K mg)) {f : Addr} {fd : FuncData} (F : FnX K "_law_shuffled" "_law_shuffled" (topS 23) f fd) :
    FnG P w K mg base 2 f fd ["pool", "things"] (sp__law_shuffled K mg) := by
  refine fn_mir (K0 := k__law_shuffled) (Sr := fun pa b => [.ow (some (pa 0)) (.list b.2), .un, .un, .un]) F sc__law_shuffled 2 rfl ?_ (fun _ _ => .inl rfl) (SrL.all fun a pa b => (.io (.un .nil))) (fun _ => rfl) (fun _ _ => Nat.le_of_ble_eq_true rfl) (fun _ => rfl)
  intro X a pa w0 hK hmg hN hc hgd hr hX tk hw
  obtain ⟨cdv, A, outer, s, H, E, rfl⟩ := hX
  obtain ⟨W0, S0'⟩ := w0
  cases hw
  have hu := huG hr
  have nd := sc__law_shuffled.nd
  exact es_S [.ow (some (pa 0)) (.list a.1), .rd (.list a.2), .un, .un] (es_asg 2 (ev_tn1 (γ := (List D)) (op := opList) (fun (r3 : (List D)) => [.ow (some (pa 0)) (.list a.1), .rd (.list a.2), .un, .un]) (fun (r3 : (List D)) => .ow none (.list r3)) (fun (_u1 : Unit) (d2 : List D) => d2) (fun (_u1 : Unit) => (D.list a.2)) (list_ok hc) opList_ne T.b_list (ev_al 1)) (fun (r3 : (List D)) => (es_S [.ow (some (pa 0)) (.list a.1), .rd (.list a.2), .ow none (.list r3), .un] (es_retW (Sr := fun (r33 : (List D) × (List D) × (List D)) => [.ow (some (pa 0)) (.list r33.2.1), .un, .un, .un]) (fun (r33 : (List D) × (List D) × (List D)) => (r33.1, r33.2.1)) (ev_k (ek_compS (β := (List D) × (List D)) (SJ := fun (b20 : (List D) × (List D)) => [.ow (some (pa 0)) (.list b20.1), .rd (.list a.2), .ow none (.list b20.2), .un]) (S' := fun (r33 : (List D) × (List D) × (List D)) => [.ow (some (pa 0)) (.list r33.2.1), .rd (.list a.2), .ow none (.list r33.2.2), .un]) (R := fun (r33 : (List D) × (List D) × (List D)) => .ow none (.list r33.1)) (Sg := fun (b20 : (List D) × (List D)) (d21 : D) _ => [.ow (some (pa 0)) (.list b20.1), .rd (.list a.2), .ow none (.list b20.2), .v d21]) (S2 := fun (b20 : (List D) × (List D)) (d21 : D) _ _t => [.ow (some (pa 0)) (.list b20.1), .rd (.list a.2), .ow none (.list b20.2), .v d21]) (Se := fun (b20 : (List D) × (List D)) (d21 : D) _ _t (r32 : D × (List D) × (List D)) => [.ow (some (pa 0)) (.list r32.2.1), .rd (.list a.2), .ow none (.list r32.2.2), .v d21]) (mg := fun (b20 : (List D) × (List D)) (d21 : D) => Res.ok ()) (mt := fun (b20 : (List D) × (List D)) (d21 : D) _ => Res.ok ()) (me := fun (b20 : (List D) × (List D)) (d21 : D) _ _t => (((Res.ok ()).bind fun (_u25 : Unit) => ((Res.ok ()).bind fun (_u26 : Unit) => opLen [(D.list b20.2)]).bind fun (a27 : D) => .ok (_u25, a27)).bind fun (q28 : Unit × D) => (m_law_draw_v2 (b20.1, q28.2)).bind fun (b29 : D × (List D)) => .ok (b29.1, b29.2)).bind fun (r30 : D × (List D)) => (opPopAt b20.2 [r30.1]).bind fun d31 => .ok (d31.1, r30.2, d31.2)) (y := fun (r32 : D × (List D) × (List D)) => r32.1) (bt := (fun _ => true)) [("step", 3)] (fun (r19 : Int) z34 => (z34.2, z34.1.1, z34.1.2)) (fun (r19 : Int) => (a.1, r3)) (fun (b20 : (List D) × (List D)) (d21 : D) _ _t => (b20.1, b20.2)) (fun (b20 : (List D) × (List D)) (d21 : D) _ _t (r32 : D × (List D) × (List D)) => (r32.2.1, r32.2.2)) hc nd (ei_range1 (γ := Int) (fun (r19 : Int) => [.ow (some (pa 0)) (.list a.1), .rd (.list a.2), .ow none (.list r3), .un]) (fun (a17 : D) i18 => i18) (fun (r19 : Int) => rngD 0 r19) (fun (a17 : D) => a17) T.b_range (ev_f1 (op := opLen) len_ok len_ne T.b_len (ev_al 2))) (fun (r19 : Int) => (WL.refl _)) (fun _ _ _ _ _ (b20 : (List D) × (List D)) (d21 : D) => (eg_name 3 (by exact nd))) (fun _ _ _ _ _ (b20 : (List D) × (List D)) (d21 : D) _ (r19 : Int) _ => ets_nil) (fun _ _ _ _ _ (b20 : (List D) × (List D)) (d21 : D) _ _t (r19 : Int) _ => (ev_m1 (γ := D × (List D) × (List D)) (op := opPopAt) PySem.F.slot_list_pop PySem.F.type_list_pop popAt_ok popAt_ne 2 (fun (r32 : D × (List D) × (List D)) => [.ow (some (pa 0)) (.list r32.2.1), .rd (.list a.2), .ow none (.list r32.2.2), .v d21]) (fun (r32 : D × (List D) × (List D)) => .v r32.1) (fun (r30 : D × (List D)) d31 => (d31.1, r30.2, d31.2)) (fun _ => none) (fun (r30 : D × (List D)) => b20.2) (fun (r30 : D × (List D)) => [r30.1]) (ea_one (ev_cd (γ := D × (List D)) (k := 1) (αc := (List D) × D) (βc := D × (List D)) (fun (r30 : D × (List D)) => [.ow (some (pa 0)) (.list r30.2), .rd (.list a.2), .ow none (.list b20.2), .v d21]) (fun (r30 : D × (List D)) => .v r30.1) (fun (q28 : Unit × D) => (b20.1, q28.2)) (fun (q28 : Unit × D) (b29 : D × (List D)) => (b29.1, b29.2)) [] d__law_draw (by exact hgd) (by exact hr.mono (by decide)) takesW (fun _ => .nil) (ea_cons (Rs := fun (q28 : Unit × D) => [.al 0, .v q28.2]) (fun (q28 : Unit × D) => [.ow (some (pa 0)) (.list b20.1), .rd (.list a.2), .ow none (.list b20.2), .v d21]) (fun (_u25 : Unit) (a27 : D) => (_u25, a27)) (ev_al 0) (fun (_u25 : Unit) => (ea_one (ev_f1 (op := opLen) len_ok len_ne T.b_len (ev_al 2))))) (fun (q28 : Unit × D) => (.cons (.ai _ _ _ rfl) (.cons (.v _) .nil))))))) (fun (b20 : (List D) × (List D)) (d21 : D) _ _t => (WL.refl _)) (fun (b20 : (List D) × (List D)) (d21 : D) _ _t (r32 : D × (List D) × (List D)) => (WL.refl _)))) (fun (r33 : (List D) × (List D) × (List D)) => (WL.cons (.rfl _) (.cons (.un _) (.cons (.un _) (.cons (.rfl _) .nil)))))))) nd)
/-! ### _law_log -/
def k__law_log (pa : Nat → Addr) : (List D) × (List D) → Out := fun b => .rt [.ow (some (pa 0)) (.list b.2), .un, .un, .un, .un, .un, .un, .un, .un, .un, .un, .un] (.ow none (.list b.1))
abbrev sp__law_log (K : PySem.W.Frag) (mg : Str → Option Value) : Sp := spF K mg 2 (fun a : (List D) × D => [.ow none (.list a.1), .v a.2]) [0] m_law_log (fun b : (List D) × (List D) => [.ow none (.list b.2), .un]) (fun b => .ow none (.list b.1))
theorem sc__law_log : FnScope ["pool", "most", "count", "names", "loads", "hits", "found", "present", "turn", "left", "way", "name"] ["pool", "most"] (defScope (topS 25)) := ⟨rfl, rfl, rfl, by decide +kernel, rfl, by decide +kernel, by decide +kernel⟩
theorem w__law_log {P : Program} {w : World} {K : PySem.W.Frag} {mg : Str → Option Value} {base : Heap} (T : Tx K mg) (d__law_draw : DefD P w K mg base 1 "_law_draw" 2 [] (sp__law_draw K mg)) (d__law_names : DefD P w K mg base 1 "_law_names" 0 [] (sp__law_names K mg)) (d__law_shuffled : DefD P w K mg base 2 "_law_shuffled" 2 [] (sp__law_shuffled K mg)) {f : Addr} {fd : FuncData} (F : FnX K "_law_log" "_law_log" (topS 25) f fd) :
    FnG P w K mg base 3 f fd ["pool", "most"] (sp__law_log K mg) := by
  refine fn_mir (K0 := k__law_log) (Sr := fun pa b => [.ow (some (pa 0)) (.list b.2), .un, .un, .un, .un, .un, .un, .un, .un, .un, .un, .un]) F sc__law_log 10 rfl ?_ (fun _ _ => .inl rfl) (SrL.all fun a pa b => (.io (.un .nil))) (fun _ => rfl) (fun _ _ => Nat.le_of_ble_eq_true rfl) (fun _ => rfl)
  intro X a pa w0 hK hmg hN hc hgd hr hX tk hw
  obtain ⟨cdv, A, outer, s, H, E, rfl⟩ := hX
  obtain ⟨W0, S0'⟩ := w0
  cases hw
  have hu := huG hr
  have nd := sc__law_log.nd
  exact es_S [.ow (some (pa 0)) (.list a.1), .v a.2, .un, .un, .un, .un, .un, .un, .un, .un, .un, .un] (es_asg 2 (ev_cd (γ := D × (List D)) (k := 1) (αc := (List D) × D) (βc := D × (List D)) (fun (r11 : D × (List D)) => [.ow (some (pa 0)) (.list r11.2), .v a.2, .un, .un, .un, .un, .un, .un, .un, .un, .un, .un]) (fun (r11 : D × (List D)) => .v r11.1) (fun (q9 : Unit × D) => (a.1, q9.2)) (fun (q9 : Unit × D) (b10 : D × (List D)) => (b10.1, b10.2)) [] d__law_draw hgd (hr.mono (by decide)) tk (fun _ => .nil) (ea_cons (Rs := fun (q9 : Unit × D) => [.al 0, .v q9.2]) (fun (q9 : Unit × D) => [.ow (some (pa 0)) (.list a.1), .v a.2, .un, .un, .un, .un, .un, .un, .un, .un, .un, .un]) (fun (_u5 : Unit) (a8 : D) => (_u5, a8)) (ev_al 0) (fun (_u5 : Unit) => (ea_one (ev_binP (ev_v 1) (fun (a6 : D) => ev_int))))) (fun (q9 : Unit × D) => (.cons (.ai _ _ _ rfl) (.cons (.v _) .nil)))) (fun (r11 : D × (List D)) => (es_S [.ow (some (pa 0)) (.list r11.2), .v a.2, .v r11.1, .un, .un, .un, .un, .un, .un, .un, .un, .un] (es_asg 3 (ev_slL (δ := (List D) × (List D)) (o2 := fun (r18 : (List D) × (List D)) (_n19 : Unit) => none) (o3 := fun (r18 : (List D) × (List D)) (_n19 : Unit) (r61 : Int × (List D)) => (some r61.1)) (fun (r63 : (List D) × (List D)) => [.ow (some (pa 0)) (.list r63.2), .v a.2, .v r11.1, .un, .un, .un, .un, .un, .un, .un, .un, .un]) (fun (r63 : (List D) × (List D)) => .ow none (.list r63.1)) (fun (r18 : (List D) × (List D)) (_n19 : Unit) (r61 : Int × (List D)) (d62 : List D) => (d62, r61.2)) (fun (r18 : (List D) × (List D)) (_n19 : Unit) (r61 : Int × (List D)) => r18.1) (ev_cd (γ := (List D) × (List D)) (k := 2) (αc := (List D) × (List D)) (βc := (List D) × (List D)) (fun (r18 : (List D) × (List D)) => [.ow (some (pa 0)) (.list r18.2), .v a.2, .v r11.1, .un, .un, .un, .un, .un, .un, .un, .un, .un]) (fun (r18 : (List D) × (List D)) => .ow none (.list r18.1)) (fun (q16 : Unit × (List D)) => (r11.2, q16.2)) (fun (q16 : Unit × (List D)) (b17 : (List D) × (List D)) => (b17.1, b17.2)) [] d__law_shuffled hgd (hr.mono (by decide)) tk (fun _ => .nil) (ea_cons (Rs := fun (q16 : Unit × (List D)) => [.al 0, .ow none (.list q16.2)]) (fun (q16 : Unit × (List D)) => [.ow (some (pa 0)) (.list r11.2), .v a.2, .v r11.1, .un, .un, .un, .un, .un, .un, .un, .un, .un]) (fun (_u14 : Unit) (c15 : (List D)) => (_u14, c15)) (ev_al 0) (fun (_u14 : Unit) => (ea_one (ev_cd0 (k := 1) () d__law_names hgd (hr.mono (by decide)) tk)))) (fun (q16 : Unit × (List D)) => (.cons (.ai _ _ _ rfl) (.cons (.owr _ _) .nil)))) (fun (r18 : (List D) × (List D)) => eo_none) (fun (r18 : (List D) × (List D)) (_n19 : Unit) => (eo_some (γ := Int × (List D)) (fun (r61 : Int × (List D)) => [.ow (some (pa 0)) (.list r61.2), .v a.2, .v r11.1, .un, .un, .un, .un, .un, .un, .un, .un, .un]) (fun (r61 : Int × (List D)) => some r61.1) (fun (r59 : D × (List D)) i60 => (i60, r59.2)) (fun (r59 : D × (List D)) => r59.1) (ev_bin (γ := D × (List D)) (fun (r59 : D × (List D)) => [.ow (some (pa 0)) (.list r59.2), .v a.2, .v r11.1, .un, .un, .un, .un, .un, .un, .un, .un, .un]) (fun (r59 : D × (List D)) => .v r59.1) (fun (a20 : D) (r57 : D × (List D)) (d58 : D) => (d58, r57.2)) (fun (a20 : D) (r57 : D × (List D)) => a20) (fun (a20 : D) (r57 : D × (List D)) => r57.1) ev_int (fun (a20 : D) => (ev_cd (γ := D × (List D)) (k := 1) (αc := (List D) × D) (βc := D × (List D)) (fun (r57 : D × (List D)) => [.ow (some (pa 0)) (.list r57.2), .v a.2, .v r11.1, .un, .un, .un, .un, .un, .un, .un, .un, .un]) (fun (r57 : D × (List D)) => .v r57.1) (fun (q55 : Unit × D × (List D)) => (q55.2.2, q55.2.1)) (fun (q55 : Unit × D × (List D)) (b56 : D × (List D)) => (b56.1, b56.2)) [] d__law_draw hgd (hr.mono (by decide)) tk (fun _ => .nil) (ea_cons (Rs := fun (q55 : Unit × D × (List D)) => [.al 0, .v q55.2.1]) (fun (q55 : Unit × D × (List D)) => [.ow (some (pa 0)) (.list q55.2.2), .v a.2, .v r11.1, .un, .un, .un, .un, .un, .un, .un, .un, .un]) (fun (_u38 : Unit) (r54 : D × (List D)) => (_u38, r54)) (ev_al 0) (fun (_u38 : Unit) => (ea_one (ev_ix (γ := D × (List D)) (fun (r54 : D × (List D)) => [.ow (some (pa 0)) (.list r54.2), .v a.2, .v r11.1, .un, .un, .un, .un, .un, .un, .un, .un, .un]) (fun (r54 : D × (List D)) => .v r54.1) (fun (r45 : (List D)) (r52 : D × (List D)) (d53 : D) => (d53, r52.2)) (fun (r45 : (List D)) (r52 : D × (List D)) => (D.list r45)) (fun (r45 : (List D)) (r52 : D × (List D)) => r52.1) (ev_lst (γ := (List D)) (fun (r45 : (List D)) => [.ow (some (pa 0)) (.list r18.2), .v a.2, .v r11.1, .un, .un, .un, .un, .un, .un, .un, .un, .un]) (fun (r45 : (List D)) => .ow none (.list r45)) (fun (q43 : D × D × D) (l44 : List D) => l44) (fun (q43 : D × D × D) => [q43.1, q43.2.1, q43.2.2]) (ea_cons (Rs := fun (q43 : D × D × D) => [.v q43.1, .v q43.2.1, .v q43.2.2]) (fun (q43 : D × D × D) => [.ow (some (pa 0)) (.list r18.2), .v a.2, .v r11.1, .un, .un, .un, .un, .un, .un, .un, .un, .un]) (fun (a39 : D) (q42 : D × D) => (a39, q42)) ev_int (fun (a39 : D) => (ea_cons (Rs := fun (q42 : D × D) => [.v q42.1, .v q42.2]) (fun (q42 : D × D) => [.ow (some (pa 0)) (.list r18.2), .v a.2, .v r11.1, .un, .un, .un, .un, .un, .un, .un, .un, .un]) (fun (a40 : D) (a41 : D) => (a40, a41)) ev_int (fun (a40 : D) => (ea_one ev_int)))))) (fun (r45 : (List D)) => (ev_cd (γ := D × (List D)) (k := 1) (αc := (List D) × D) (βc := D × (List D)) (fun (r52 : D × (List D)) => [.ow (some (pa 0)) (.list r52.2), .v a.2, .v r11.1, .un, .un, .un, .un, .un, .un, .un, .un, .un]) (fun (r52 : D × (List D)) => .v r52.1) (fun (q50 : Unit × D) => (r18.2, q50.2)) (fun (q50 : Unit × D) (b51 : D × (List D)) => (b51.1, b51.2)) [] d__law_draw hgd (hr.mono (by decide)) tk (fun _ => .nil) (ea_cons (Rs := fun (q50 : Unit × D) => [.al 0, .v q50.2]) (fun (q50 : Unit × D) => [.ow (some (pa 0)) (.list r18.2), .v a.2, .v r11.1, .un, .un, .un, .un, .un, .un, .un, .un, .un]) (fun (_u48 : Unit) (a49 : D) => (_u48, a49)) (ev_al 0) (fun (_u48 : Unit) => (ea_one ev_int))) (fun (q50 : Unit × D) => (.cons (.ai _ _ _ rfl) (.cons (.v _) .nil))))))))) (fun (q55 : Unit × D × (List D)) => (.cons (.ai _ _ _ rfl) (.cons (.v _) .nil))))))))) (fun (r63 : (List D) × (List D)) => (es_S [.ow (some (pa 0)) (.list r63.2), .v a.2, .v r11.1, .ow none (.list r63.1), .un, .un, .un, .un, .un, .un, .un, .un] (es_par 4 5 (ev_bin (γ := D × (List D)) (fun (r73 : D × (List D)) => [.ow (some (pa 0)) (.list r73.2), .v a.2, .v r11.1, .ow none (.list r63.1), .un, .un, .un, .un, .un, .un, .un, .un]) (fun (r73 : D × (List D)) => .v r73.1) (fun (a64 : D) (r71 : D × (List D)) (d72 : D) => (d72, r71.2)) (fun (a64 : D) (r71 : D × (List D)) => a64) (fun (a64 : D) (r71 : D × (List D)) => r71.1) ev_int (fun (a64 : D) => (ev_cd (γ := D × (List D)) (k := 1) (αc := (List D) × D) (βc := D × (List D)) (fun (r71 : D × (List D)) => [.ow (some (pa 0)) (.list r71.2), .v a.2, .v r11.1, .ow none (.list r63.1), .un, .un, .un, .un, .un, .un, .un, .un]) (fun (r71 : D × (List D)) => .v r71.1) (fun (q69 : Unit × D) => (r63.2, q69.2)) (fun (q69 : Unit × D) (b70 : D × (List D)) => (b70.1, b70.2)) [] d__law_draw hgd (hr.mono (by decide)) tk (fun _ => .nil) (ea_cons (Rs := fun (q69 : Unit × D) => [.al 0, .v q69.2]) (fun (q69 : Unit × D) => [.ow (some (pa 0)) (.list r63.2), .v a.2, .v r11.1, .ow none (.list r63.1), .un, .un, .un, .un, .un, .un, .un, .un]) (fun (_u67 : Unit) (a68 : D) => (_u67, a68)) (ev_al 0) (fun (_u67 : Unit) => (ea_one ev_int))) (fun (q69 : Unit × D) => (.cons (.ai _ _ _ rfl) (.cons (.v _) .nil)))))) (fun (r73 : D × (List D)) => (ev_cd (γ := D × (List D)) (k := 1) (αc := (List D) × D) (βc := D × (List D)) (fun (r80 : D × (List D)) => [.ow (some (pa 0)) (.list r80.2), .v a.2, .v r11.1, .ow none (.list r63.1), .un, .un, .un, .un, .un, .un, .un, .un]) (fun (r80 : D × (List D)) => .v r80.1) (fun (q78 : Unit × D) => (r73.2, q78.2)) (fun (q78 : Unit × D) (b79 : D × (List D)) => (b79.1, b79.2)) [] d__law_draw hgd (hr.mono (by decide)) tk (fun _ => .nil) (ea_cons (Rs := fun (q78 : Unit × D) => [.al 0, .v q78.2]) (fun (q78 : Unit × D) => [.ow (some (pa 0)) (.list r73.2), .v a.2, .v r11.1, .ow none (.list r63.1), .un, .un, .un, .un, .un, .un, .un, .un]) (fun (_u76 : Unit) (a77 : D) => (_u76, a77)) (ev_al 0) (fun (_u76 : Unit) => (ea_one ev_int))) (fun (q78 : Unit × D) => (.cons (.ai _ _ _ rfl) (.cons (.v _) .nil))))) (fun (r73 : D × (List D)) (r80 : D × (List D)) => (es_S [.ow (some (pa 0)) (.list r80.2), .v a.2, .v r11.1, .ow none (.list r63.1), .v r73.1, .v r80.1, .un, .un, .un, .un, .un, .un] (es_parT [6, 7] (ea_cons (Rs := fun (q83 : (List D) × List D) => [.ow none (.list q83.1), .ow none (.list q83.2)]) (fun (q83 : (List D) × List D) => [.ow (some (pa 0)) (.list r80.2), .v a.2, .v r11.1, .ow none (.list r63.1), .v r73.1, .v r80.1, .un, .un, .un, .un, .un, .un]) (fun (a81 : List D) (a82 : List D) => (a81, a82)) (ev_lst (γ := List D) (fun _ => [.ow (some (pa 0)) (.list r80.2), .v a.2, .v r11.1, .ow none (.list r63.1), .v r73.1, .v r80.1, .un, .un, .un, .un, .un, .un]) (fun l => .ow none (.list l)) (fun _ l => l) (fun _ => []) ea_nil) (fun (a81 : List D) => (ea_one (ev_lst (γ := List D) (fun _ => [.ow (some (pa 0)) (.list r80.2), .v a.2, .v r11.1, .ow none (.list r63.1), .v r73.1, .v r80.1, .un, .un, .un, .un, .un, .un]) (fun l => .ow none (.list l)) (fun _ l => l) (fun _ => []) ea_nil)))) (.cons rfl (by first | exact Or.inl rfl | exact Or.inr rfl) (by first | exact .inl rfl | exact .inr rfl) rfl (.cons rfl (by first | exact Or.inl rfl | exact Or.inr rfl) (by first | exact .inl rfl | exact .inr rfl) rfl .nil)) (fun (q83 : (List D) × List D) => (es_S [.ow (some (pa 0)) (.list r80.2), .v a.2, .v r11.1, .ow none (.list r63.1), .v r73.1, .v r80.1, .ow none (.list q83.1), .ow none (.list q83.2), .un, .un, .un, .un] (es_forF 8 (fun (b285 : (List D) × (List D) × (List D)) => [.ow (some (pa 0)) (.list b285.1), .v a.2, .v r11.1, .ow none (.list r63.1), .v r73.1, .v r80.1, .ow none (.list b285.2.1), .ow none (.list b285.2.2), .un, .un, .un, .un]) (fun (r86 : Int) => (r80.2, q83.1, q83.2)) nd (passes_of rfl) hc (ei_range1 (γ := Int) (fun (r86 : Int) => [.ow (some (pa 0)) (.list r80.2), .v a.2, .v r11.1, .ow none (.list r63.1), .v r73.1, .v r80.1, .ow none (.list q83.1), .ow none (.list q83.2), .un, .un, .un, .un]) (fun (a84 : D) i85 => i85) (fun (r86 : Int) => rngD 0 r86) (fun (a84 : D) => a84) T.b_range (ev_v 2)) (fun (r86 : Int) => (WL.refl _)) (fun (r86 : Int) (b285 : (List D) × (List D) × (List D)) (d286 : D) => (es_S [.ow (some (pa 0)) (.list b285.1), .v a.2, .v r11.1, .ow none (.list r63.1), .v r73.1, .v r80.1, .ow none (.list b285.2.1), .ow none (.list b285.2.2), .v d286, .un, .un, .un] (es_par 9 10 (ev_k (ek_compO [("name", 11)] hc nd (ei_list (fun (_u292 : Unit) => r63.1) (ev_al 3)) (fun _ _ _ _ _ (d287 : D) => (eg_name 11 (by exact nd))) (fun _ _ _ _ _ (d287 : D) _ (_u292 : Unit) _ => ets_one (et_cmpP (by exact hu) (ev_v 11) (fun (a288 : D) => (ev_al 7)))) (fun _ _ _ _ _ (d287 : D) _ (_u292 : Unit) _ => (ev_v 11)))) (fun (a293 : List D) => (ev_cd (γ := D × (List D)) (k := 1) (αc := (List D) × D) (βc := D × (List D)) (fun (r308 : D × (List D)) => [.ow (some (pa 0)) (.list r308.2), .v a.2, .v r11.1, .ow none (.list r63.1), .v r73.1, .v r80.1, .ow none (.list b285.2.1), .ow none (.list b285.2.2), .v d286, .un, .un, .un]) (fun (r308 : D × (List D)) => .v r308.1) (fun (q306 : Unit × D) => (b285.1, q306.2)) (fun (q306 : Unit × D) (b307 : D × (List D)) => (b307.1, b307.2)) [] d__law_draw hgd (hr.mono (by decide)) tk (fun _ => .nil) (ea_cons (Rs := fun (q306 : Unit × D) => [.al 0, .v q306.2]) (fun (q306 : Unit × D) => [.ow (some (pa 0)) (.list b285.1), .v a.2, .v r11.1, .ow none (.list r63.1), .v r73.1, .v r80.1, .ow none (.list b285.2.1), .ow none (.list b285.2.2), .v d286, .un, .un, .un]) (fun (_u300 : Unit) (a305 : D) => (_u300, a305)) (ev_al 0) (fun (_u300 : Unit) => (ea_one (ev_binP (ev_binP (ev_v 4) (fun (a301 : D) => (ev_v 5))) (fun (a303 : D) => ev_int))))) (fun (q306 : Unit × D) => (.cons (.ai _ _ _ rfl) (.cons (.v _) .nil))))) (fun (a293 : List D) (r308 : D × (List D)) => (es_S [.ow (some (pa 0)) (.list r308.2), .v a.2, .v r11.1, .ow none (.list r63.1), .v r73.1, .v r80.1, .ow none (.list b285.2.1), .ow none (.list b285.2.2), .v d286, .ow none (.list a293), .v r308.1, .un] (es_ifl (et_w (ew_orP (et_cmpP hu (ev_al 7) (fun (_u309 : Unit) => (ev_lst (γ := List D) (fun _ => [.ow (some (pa 0)) (.list r308.2), .v a.2, .v r11.1, .ow none (.list r63.1), .v r73.1, .v r80.1, .ow none (.list b285.2.1), .ow none (.list b285.2.2), .v d286, .ow none (.list a293), .v r308.1, .un]) (fun l => .ow none (.list l)) (fun _ l => l) (fun _ => []) ea_nil))) (ew_or1 (et_w (ew_andP (et_cmpP hu (ev_v 10) (fun (a312 : D) => (ev_v 4))) (ew_and1 (et_cmpP hu (ev_al 9) (fun (_u315 : Unit) => (ev_lst (γ := List D) (fun _ => [.ow (some (pa 0)) (.list r308.2), .v a.2, .v r11.1, .ow none (.list r63.1), .v r73.1, .v r80.1, .ow none (.list b285.2.1), .ow none (.list b285.2.2), .v d286, .ow none (.list a293), .v r308.1, .un]) (fun l => .ow none (.list l)) (fun _ l => l) (fun _ => []) ea_nil))))))))) (fun (a319 : Bool) => (es_S [.ow (some (pa 0)) (.list r308.2), .v a.2, .v r11.1, .ow none (.list r63.1), .v r73.1, .v r80.1, .ow none (.list b285.2.1), .ow none (.list b285.2.2), .v d286, .ow none (.list a293), .v r308.1, .un] (es_expr (ev_m1 (γ := D × (List D) × (List D)) (op := opAppend) PySem.F.slot_list_append PySem.F.type_list_append append_ok append_ne 7 (fun (r333 : D × (List D) × (List D)) => [.ow (some (pa 0)) (.list r333.2.1), .v a.2, .v r11.1, .ow none (.list r63.1), .v r73.1, .v r80.1, .ow none (.list b285.2.1), .ow none (.list r333.2.2), .v d286, .ow none (.list a293), .v r308.1, .un]) (fun (r333 : D × (List D) × (List D)) => .v r333.1) (fun (r331 : D × (List D)) d332 => (d332.1, r331.2, d332.2)) (fun _ => none) (fun (r331 : D × (List D)) => b285.2.2) (fun (r331 : D × (List D)) => [r331.1]) (ea_one (ev_ix (γ := D × (List D)) (fun (r331 : D × (List D)) => [.ow (some (pa 0)) (.list r331.2), .v a.2, .v r11.1, .ow none (.list r63.1), .v r73.1, .v r80.1, .ow none (.list b285.2.1), .ow none (.list b285.2.2), .v d286, .ow none (.list a293), .v r308.1, .un]) (fun (r331 : D × (List D)) => .v r331.1) (fun (_u320 : Unit) (r329 : D × (List D)) (d330 : D) => (d330, r329.2)) (fun (_u320 : Unit) (r329 : D × (List D)) => (D.list a293)) (fun (_u320 : Unit) (r329 : D × (List D)) => r329.1) (ev_al 9) (fun (_u320 : Unit) => (ev_cd (γ := D × (List D)) (k := 1) (αc := (List D) × D) (βc := D × (List D)) (fun (r329 : D × (List D)) => [.ow (some (pa 0)) (.list r329.2), .v a.2, .v r11.1, .ow none (.list r63.1), .v r73.1, .v r80.1, .ow none (.list b285.2.1), .ow none (.list b285.2.2), .v d286, .ow none (.list a293), .v r308.1, .un]) (fun (r329 : D × (List D)) => .v r329.1) (fun (q327 : Unit × D) => (r308.2, q327.2)) (fun (q327 : Unit × D) (b328 : D × (List D)) => (b328.1, b328.2)) [] d__law_draw hgd (hr.mono (by decide)) tk (fun _ => .nil) (ea_cons (Rs := fun (q327 : Unit × D) => [.al 0, .v q327.2]) (fun (q327 : Unit × D) => [.ow (some (pa 0)) (.list r308.2), .v a.2, .v r11.1, .ow none (.list r63.1), .v r73.1, .v r80.1, .ow none (.list b285.2.1), .ow none (.list b285.2.2), .v d286, .ow none (.list a293), .v r308.1, .un]) (fun (_u324 : Unit) (a326 : D) => (_u324, a326)) (ev_al 0) (fun (_u324 : Unit) => (ea_one (ev_f1 (op := opLen) len_ok len_ne T.b_len (ev_al 9))))) (fun (q327 : Unit × D) => (.cons (.ai _ _ _ rfl) (.cons (.v _) .nil)))))))) (fun (r333 : D × (List D) × (List D)) => (es_S [.ow (some (pa 0)) (.list r333.2.1), .v a.2, .v r11.1, .ow none (.list r63.1), .v r73.1, .v r80.1, .ow none (.list b285.2.1), .ow none (.list r333.2.2), .v d286, .ow none (.list a293), .v r308.1, .un] (es_expr (ev_m1 (γ := D × (List D)) (op := opAppend) PySem.F.slot_list_append PySem.F.type_list_append append_ok append_ne 6 (fun (r343 : D × (List D)) => [.ow (some (pa 0)) (.list r333.2.1), .v a.2, .v r11.1, .ow none (.list r63.1), .v r73.1, .v r80.1, .ow none (.list r343.2), .ow none (.list r333.2.2), .v d286, .ow none (.list a293), .v r308.1, .un]) (fun (r343 : D × (List D)) => .v r343.1) (fun (r341 : D) d342 => (d342.1, d342.2)) (fun _ => none) (fun (r341 : D) => b285.2.1) (fun (r341 : D) => [r341]) (ea_one (ev_tup (γ := D) (fun (r341 : D) => [.ow (some (pa 0)) (.list r333.2.1), .v a.2, .v r11.1, .ow none (.list r63.1), .v r73.1, .v r80.1, .ow none (.list b285.2.1), .ow none (.list r333.2.2), .v d286, .ow none (.list a293), .v r308.1, .un]) (fun (r341 : D) => .v r341) (fun (q339 : D × D) l340 => (D.tup l340)) (fun (q339 : D × D) => [q339.1, q339.2]) (ea_cons (Rs := fun (q339 : D × D) => [.v q339.1, .v q339.2]) (fun (q339 : D × D) => [.ow (some (pa 0)) (.list r333.2.1), .v a.2, .v r11.1, .ow none (.list r63.1), .v r73.1, .v r80.1, .ow none (.list b285.2.1), .ow none (.list r333.2.2), .v d286, .ow none (.list a293), .v r308.1, .un]) (fun (a334 : D) (a338 : D) => (a334, a338)) ev_str (fun (a334 : D) => (ea_one (ev_ixP (ev_al 7) (fun (_u335 : Unit) => (ev_neg ev_int))))))))) (fun (r343 : D × (List D)) => (es_S [.ow (some (pa 0)) (.list r333.2.1), .v a.2, .v r11.1, .ow none (.list r63.1), .v r73.1, .v r80.1, .ow none (.list r343.2), .ow none (.list r333.2.2), .v d286, .ow none (.list a293), .v r308.1, .un] (es_end (r333.2.1, r343.2, r333.2.2) (WL.cons (.rfl _) (.cons (.rfl _) (.cons (.rfl _) (.cons (.rfl _) (.cons (.rfl _) (.cons (.rfl _) (.cons (.rfl _) (.cons (.rfl _) (.cons (.un _) (.cons (.un _) (.cons (.un _) (.cons (.rfl _) .nil))))))))))))))))))))) (fun (a319 : Bool) => (es_S [.ow (some (pa 0)) (.list r308.2), .v a.2, .v r11.1, .ow none (.list r63.1), .v r73.1, .v r80.1, .ow none (.list b285.2.1), .ow none (.list b285.2.2), .v d286, .ow none (.list a293), .v r308.1, .un] (es_ifl (et_cmpP hu (ev_v 10) (fun (a344 : D) => (ev_binP (ev_v 4) (fun (a345 : D) => (ev_v 5))))) (fun (a348 : Bool) => (es_S [.ow (some (pa 0)) (.list r308.2), .v a.2, .v r11.1, .ow none (.list r63.1), .v r73.1, .v r80.1, .ow none (.list b285.2.1), .ow none (.list b285.2.2), .v d286, .ow none (.list a293), .v r308.1, .un] (es_expr (ev_m1 (γ := D × (List D) × (List D)) (op := opAppend) PySem.F.slot_list_append PySem.F.type_list_append append_ok append_ne 6 (fun (r366 : D × (List D) × (List D)) => [.ow (some (pa 0)) (.list r366.2.1), .v a.2, .v r11.1, .ow none (.list r63.1), .v r73.1, .v r80.1, .ow none (.list r366.2.2), .ow none (.list b285.2.2), .v d286, .ow none (.list a293), .v r308.1, .un]) (fun (r366 : D × (List D) × (List D)) => .v r366.1) (fun (r364 : D × (List D)) d365 => (d365.1, r364.2, d365.2)) (fun _ => none) (fun (r364 : D × (List D)) => b285.2.1) (fun (r364 : D × (List D)) => [r364.1]) (ea_one (ev_tup (γ := D × (List D)) (fun (r364 : D × (List D)) => [.ow (some (pa 0)) (.list r364.2), .v a.2, .v r11.1, .ow none (.list r63.1), .v r73.1, .v r80.1, .ow none (.list b285.2.1), .ow none (.list b285.2.2), .v d286, .ow none (.list a293), .v r308.1, .un]) (fun (r364 : D × (List D)) => .v r364.1) (fun (q362 : D × D × (List D)) l363 => ((D.tup l363), q362.2.2)) (fun (q362 : D × D × (List D)) => [q362.1, q362.2.1]) (ea_cons (Rs := fun (q362 : D × D × (List D)) => [.v q362.1, .v q362.2.1]) (fun (q362 : D × D × (List D)) => [.ow (some (pa 0)) (.list q362.2.2), .v a.2, .v r11.1, .ow none (.list r63.1), .v r73.1, .v r80.1, .ow none (.list b285.2.1), .ow none (.list b285.2.2), .v d286, .ow none (.list a293), .v r308.1, .un]) (fun (a349 : D) (r361 : D × (List D)) => (a349, r361)) ev_str (fun (a349 : D) => (ea_one (ev_ix (γ := D × (List D)) (fun (r361 : D × (List D)) => [.ow (some (pa 0)) (.list r361.2), .v a.2, .v r11.1, .ow none (.list r63.1), .v r73.1, .v r80.1, .ow none (.list b285.2.1), .ow none (.list b285.2.2), .v d286, .ow none (.list a293), .v r308.1, .un]) (fun (r361 : D × (List D)) => .v r361.1) (fun (_u350 : Unit) (r359 : D × (List D)) (d360 : D) => (d360, r359.2)) (fun (_u350 : Unit) (r359 : D × (List D)) => (D.list b285.2.2)) (fun (_u350 : Unit) (r359 : D × (List D)) => r359.1) (ev_al 7) (fun (_u350 : Unit) => (ev_cd (γ := D × (List D)) (k := 1) (αc := (List D) × D) (βc := D × (List D)) (fun (r359 : D × (List D)) => [.ow (some (pa 0)) (.list r359.2), .v a.2, .v r11.1, .ow none (.list r63.1), .v r73.1, .v r80.1, .ow none (.list b285.2.1), .ow none (.list b285.2.2), .v d286, .ow none (.list a293), .v r308.1, .un]) (fun (r359 : D × (List D)) => .v r359.1) (fun (q357 : Unit × D) => (r308.2, q357.2)) (fun (q357 : Unit × D) (b358 : D × (List D)) => (b358.1, b358.2)) [] d__law_draw hgd (hr.mono (by decide)) tk (fun _ => .nil) (ea_cons (Rs := fun (q357 : Unit × D) => [.al 0, .v q357.2]) (fun (q357 : Unit × D) => [.ow (some (pa 0)) (.list r308.2), .v a.2, .v r11.1, .ow none (.list r63.1), .v r73.1, .v r80.1, .ow none (.list b285.2.1), .ow none (.list b285.2.2), .v d286, .ow none (.list a293), .v r308.1, .un]) (fun (_u354 : Unit) (a356 : D) => (_u354, a356)) (ev_al 0) (fun (_u354 : Unit) => (ea_one (ev_f1 (op := opLen) len_ok len_ne T.b_len (ev_al 7))))) (fun (q357 : Unit × D) => (.cons (.ai _ _ _ rfl) (.cons (.v _) .nil)))))))))))) (fun (r366 : D × (List D) × (List D)) => (es_S [.ow (some (pa 0)) (.list r366.2.1), .v a.2, .v r11.1, .ow none (.list r63.1), .v r73.1, .v r80.1, .ow none (.list r366.2.2), .ow none (.list b285.2.2), .v d286, .ow none (.list a293), .v r308.1, .un] (es_end (r366.2.1, r366.2.2, b285.2.2) (WL.cons (.rfl _) (.cons (.rfl _) (.cons (.rfl _) (.cons (.rfl _) (.cons (.rfl _) (.cons (.rfl _) (.cons (.rfl _) (.cons (.rfl _) (.cons (.un _) (.cons (.un _) (.cons (.un _) (.cons (.rfl _) .nil)))))))))))))))))) (fun (a348 : Bool) => (es_S [.ow (some (pa 0)) (.list r308.2), .v a.2, .v r11.1, .ow none (.list r63.1), .v r73.1, .v r80.1, .ow none (.list b285.2.1), .ow none (.list b285.2.2), .v d286, .ow none (.list a293), .v r308.1, .un] (es_expr (ev_m1 (γ := D × (List D) × (List D) × (List D)) (op := opAppend) PySem.F.slot_list_append PySem.F.type_list_append append_ok append_ne 6 (fun (r383 : D × (List D) × (List D) × (List D)) => [.ow (some (pa 0)) (.list r383.2.1), .v a.2, .v r11.1, .ow none (.list r63.1), .v r73.1, .v r80.1, .ow none (.list r383.2.2.1), .ow none (.list r383.2.2.2), .v d286, .ow none (.list a293), .v r308.1, .un]) (fun (r383 : D × (List D) × (List D) × (List D)) => .v r383.1) (fun (r381 : D × (List D) × (List D)) d382 => (d382.1, r381.2.1, d382.2, r381.2.2)) (fun _ => none) (fun (r381 : D × (List D) × (List D)) => b285.2.1) (fun (r381 : D × (List D) × (List D)) => [r381.1]) (ea_one (ev_tup (γ := D × (List D) × (List D)) (fun (r381 : D × (List D) × (List D)) => [.ow (some (pa 0)) (.list r381.2.1), .v a.2, .v r11.1, .ow none (.list r63.1), .v r73.1, .v r80.1, .ow none (.list b285.2.1), .ow none (.list r381.2.2), .v d286, .ow none (.list a293), .v r308.1, .un]) (fun (r381 : D × (List D) × (List D)) => .v r381.1) (fun (q379 : D × D × (List D) × (List D)) l380 => ((D.tup l380), q379.2.2.1, q379.2.2.2)) (fun (q379 : D × D × (List D) × (List D)) => [q379.1, q379.2.1]) (ea_cons (Rs := fun (q379 : D × D × (List D) × (List D)) => [.v q379.1, .v q379.2.1]) (fun (q379 : D × D × (List D) × (List D)) => [.ow (some (pa 0)) (.list q379.2.2.1), .v a.2, .v r11.1, .ow none (.list r63.1), .v r73.1, .v r80.1, .ow none (.list b285.2.1), .ow none (.list q379.2.2.2), .v d286, .ow none (.list a293), .v r308.1, .un]) (fun (a367 : D) (r378 : D × (List D) × (List D)) => (a367, r378)) ev_str (fun (a367 : D) => (ea_one (ev_m1 (γ := D × (List D) × (List D)) (op := opPopAt) PySem.F.slot_list_pop PySem.F.type_list_pop popAt_ok popAt_ne 7 (fun (r378 : D × (List D) × (List D)) => [.ow (some (pa 0)) (.list r378.2.1), .v a.2, .v r11.1, .ow none (.list r63.1), .v r73.1, .v r80.1, .ow none (.list b285.2.1), .ow none (.list r378.2.2), .v d286, .ow none (.list a293), .v r308.1, .un]) (fun (r378 : D × (List D) × (List D)) => .v r378.1) (fun (r376 : D × (List D)) d377 => (d377.1, r376.2, d377.2)) (fun _ => none) (fun (r376 : D × (List D)) => b285.2.2) (fun (r376 : D × (List D)) => [r376.1]) (ea_one (ev_cd (γ := D × (List D)) (k := 1) (αc := (List D) × D) (βc := D × (List D)) (fun (r376 : D × (List D)) => [.ow (some (pa 0)) (.list r376.2), .v a.2, .v r11.1, .ow none (.list r63.1), .v r73.1, .v r80.1, .ow none (.list b285.2.1), .ow none (.list b285.2.2), .v d286, .ow none (.list a293), .v r308.1, .un]) (fun (r376 : D × (List D)) => .v r376.1) (fun (q374 : Unit × D) => (r308.2, q374.2)) (fun (q374 : Unit × D) (b375 : D × (List D)) => (b375.1, b375.2)) [] d__law_draw hgd (hr.mono (by decide)) tk (fun _ => .nil) (ea_cons (Rs := fun (q374 : Unit × D) => [.al 0, .v q374.2]) (fun (q374 : Unit × D) => [.ow (some (pa 0)) (.list r308.2), .v a.2, .v r11.1, .ow none (.list r63.1), .v r73.1, .v r80.1, .ow none (.list b285.2.1), .ow none (.list b285.2.2), .v d286, .ow none (.list a293), .v r308.1, .un]) (fun (_u371 : Unit) (a373 : D) => (_u371, a373)) (ev_al 0) (fun (_u371 : Unit) => (ea_one (ev_f1 (op := opLen) len_ok len_ne T.b_len (ev_al 7))))) (fun (q374 : Unit × D) => (.cons (.ai _ _ _ rfl) (.cons (.v _) .nil)))))))))))) (fun (r383 : D × (List D) × (List D) × (List D)) => (es_S [.ow (some (pa 0)) (.list r383.2.1), .v a.2, .v r11.1, .ow none (.list r63.1), .v r73.1, .v r80.1, .ow none (.list r383.2.2.1), .ow none (.list r383.2.2.2), .v d286, .ow none (.list a293), .v r308.1, .un] (es_end (r383.2.1, r383.2.2.1, r383.2.2.2) (WL.cons (.rfl _) (.cons (.rfl _) (.cons (.rfl _) (.cons (.rfl _) (.cons (.rfl _) (.cons (.rfl _) (.cons (.rfl _) (.cons (.rfl _) (.cons (.un _) (.cons (.un _) (.cons (.un _) (.cons (.rfl _) .nil)))))))))))))))))))))))) nd hc (by decide)))) (fun (b285 : (List D) × (List D) × (List D)) => (es_retW (Sr := fun (a384 : Unit) => [.ow (some (pa 0)) (.list b285.1), .un, .un, .un, .un, .un, .un, .un, .un, .un, .un, .un]) (fun (a384 : Unit) => (b285.2.1, b285.1)) (ev_mv 6) (fun (a384 : Unit) => (WL.cons (.rfl _) (.cons (.un _) (.cons (.un _) (.cons (.un _) (.cons (.un _) (.cons (.un _) (.cons (.rfl _) (.cons (.un _) (.cons (.rfl _) (.cons (.rfl _) (.cons (.rfl _) (.cons (.rfl _) .nil)))))))))))))))))) nd hc))) nd hc (by decide)))) nd))) nd)
/-! ### _law_filled -/
def k__law_filled (pa : Nat → Addr) : (List D) × (List D) → Out := fun b => .rt [.ow (some (pa 0)) (.list b.2), .un, .un, .un, .un, .un, .un, .un, .un, .un, .un, .un] (.ow none (.list b.1))
abbrev sp__law_filled (K : PySem.W.Frag) (mg : Str → Option Value) : Sp := spF K mg 2 (fun a : (List D) × (List D) => [.ow none (.list a.1), .rd (.list a.2)]) [0] m_law_filled (fun b : (List D) × (List D) => [.ow none (.list b.2), .un]) (fun b => .ow none (.list b.1))
theorem sc__law_filled : FnScope ["pool", "log", "found", "order", "more", "word", "name", "fresh", "other", "older", "turn", "one"] ["pool", "log"] (defScope (topS 26)) := ⟨rfl, rfl, rfl, by decide +kernel, rfl, by decide +kernel, by decide +kernel⟩
theorem w__law_filled {P : Program} {w : World} {K : PySem.W.Frag} {mg : Str → Option Value} {base : Heap} (T : Tx K mg) (d__law_draw : DefD P w K mg base 1 "_law_draw" 2 [] (sp__law_draw K mg)) (d__law_shuffled : DefD P w K mg base 2 "_law_shuffled" 2 [] (sp__law_shuffled K mg)) {f : Addr} {fd : FuncData} (F : FnX K "_law_filled" "_law_filled" (topS 26) f fd) :
    FnG P w K mg base 3 f fd ["pool", "log"] (sp__law_filled K mg) := by
  refine fn_mir (K0 := k__law_filled) (Sr := fun pa b => [.ow (some (pa 0)) (.list b.2), .un, .un, .un, .un, .un, .un, .un, .un, .un, .un, .un]) F sc__law_filled 10 rfl ?_ (fun _ _ => .inl rfl) (SrL.all fun a pa b => (.io (.un .nil))) (fun _ => rfl) (fun _ _ => Nat.le_of_ble_eq_true rfl) (fun _ => rfl)
  intro X a pa w0 hK hmg hN hc hgd hr hX tk hw
  obtain ⟨cdv, A, outer, s, H, E, rfl⟩ := hX
  obtain ⟨W0, S0'⟩ := w0
  cases hw
  have hu := huG hr
  have nd := sc__law_filled.nd
  exact es_S [.ow (some (pa 0)) (.list a.1), .rd (.list a.2), .un, .un, .un, .un, .un, .un, .un, .un, .un, .un] (es_parT [2, 3, 4] (ea_cons (Rs := fun (q11 : (List D) × (List D) × D × (List D)) => [.ow none (.list q11.1), .ow none (.list q11.2.1), .v q11.2.2.1]) (fun (q11 : (List D) × (List D) × D × (List D)) => [.ow (some (pa 0)) (.list q11.2.2.2), .rd (.list a.2), .un, .un, .un, .un, .un, .un, .un, .un, .un, .un]) (fun (a1 : List D) (q10 : (List D) × D × (List D)) => (a1, q10)) (ev_lst (γ := List D) (fun _ => [.ow (some (pa 0)) (.list a.1), .rd (.list a.2), .un, .un, .un, .un, .un, .un, .un, .un, .un, .un]) (fun l => .ow none (.list l)) (fun _ l => l) (fun _ => []) ea_nil) (fun (a1 : List D) => (ea_cons (Rs := fun (q10 : (List D) × D × (List D)) => [.ow none (.list q10.1), .v q10.2.1]) (fun (q10 : (List D) × D × (List D)) => [.ow (some (pa 0)) (.list q10.2.2), .rd (.list a.2), .un, .un, .un, .un, .un, .un, .un, .un, .un, .un]) (fun (a2 : List D) (r9 : D × (List D)) => (a2, r9)) (ev_lst (γ := List D) (fun _ => [.ow (some (pa 0)) (.list a.1), .rd (.list a.2), .un, .un, .un, .un, .un, .un, .un, .un, .un, .un]) (fun l => .ow none (.list l)) (fun _ l => l) (fun _ => []) ea_nil) (fun (a2 : List D) => (ea_one (ev_cd (γ := D × (List D)) (k := 1) (αc := (List D) × D) (βc := D × (List D)) (fun (r9 : D × (List D)) => [.ow (some (pa 0)) (.list r9.2), .rd (.list a.2), .un, .un, .un, .un, .un, .un, .un, .un, .un, .un]) (fun (r9 : D × (List D)) => .v r9.1) (fun (q7 : Unit × D) => (a.1, q7.2)) (fun (q7 : Unit × D) (b8 : D × (List D)) => (b8.1, b8.2)) [] d__law_draw hgd (hr.mono (by decide)) tk (fun _ => .nil) (ea_cons (Rs := fun (q7 : Unit × D) => [.al 0, .v q7.2]) (fun (q7 : Unit × D) => [.ow (some (pa 0)) (.list a.1), .rd (.list a.2), .un, .un, .un, .un, .un, .un, .un, .un, .un, .un]) (fun (_u5 : Unit) (a6 : D) => (_u5, a6)) (ev_al 0) (fun (_u5 : Unit) => (ea_one ev_int))) (fun (q7 : Unit × D) => (.cons (.ai _ _ _ rfl) (.cons (.v _) .nil))))))))) (.cons rfl (by first | exact Or.inl rfl | exact Or.inr rfl) (by first | exact .inl rfl | exact .inr rfl) rfl (.cons rfl (by first | exact Or.inl rfl | exact Or.inr rfl) (by first | exact .inl rfl | exact .inr rfl) rfl (.cons rfl (by first | exact Or.inl rfl | exact Or.inr rfl) (by first | exact .inl rfl | exact .inr rfl) rfl .nil))) (fun (q11 : (List D) × (List D) × D × (List D)) => (es_S [.ow (some (pa 0)) (.list q11.2.2.2), .rd (.list a.2), .ow none (.list q11.1), .ow none (.list q11.2.1), .v q11.2.2.1, .un, .un, .un, .un, .un, .un, .un] (es_forG (fun (b545 : (List D) × (List D) × (List D)) => [.ow (some (pa 0)) (.list b545.1), .rd (.list a.2), .ow none (.list b545.2.1), .ow none (.list b545.2.2), .v q11.2.2.1, .un, .un, .un, .un, .un, .un, .un]) (fun (_u12 : Unit) => (q11.2.2.2, q11.1, q11.2.1)) (passes_of rfl) hc (ei_list (fun (_u12 : Unit) => a.2) (ev_al 1)) (fun (_u12 : Unit) => (WL.refl _)) (fun (b545 : (List D) × (List D) × (List D)) (d546 : D) => (eg_n2 5 6 nd hc)) (fun (_u12 : Unit) (b545 : (List D) × (List D) × (List D)) (d546 : D) (g547 : D × D) => (es_S [.ow (some (pa 0)) (.list b545.1), .rd (.list a.2), .ow none (.list b545.2.1), .ow none (.list b545.2.2), .v q11.2.2.1, .v g547.1, .v g547.2, .un, .un, .un, .un, .un] (es_asg 7 (ev_lst (γ := List D) (fun _ => [.ow (some (pa 0)) (.list b545.1), .rd (.list a.2), .ow none (.list b545.2.1), .ow none (.list b545.2.2), .v q11.2.2.1, .v g547.1, .v g547.2, .un, .un, .un, .un, .un]) (fun l => .ow none (.list l)) (fun _ l => l) (fun _ => []) ea_nil) (fun (a548 : List D) => (es_S [.ow (some (pa 0)) (.list b545.1), .rd (.list a.2), .ow none (.list b545.2.1), .ow none (.list b545.2.2), .v q11.2.2.1, .v g547.1, .v g547.2, .ow none (.list a548), .un, .un, .un, .un] (es_ifj (SJ := fun (b619 : (List D) × (List D)) => [.ow (some (pa 0)) (.list b619.1), .rd (.list a.2), .ow none (.list b545.2.1), .ow none (.list b545.2.2), .v q11.2.2.1, .v g547.1, .v g547.2, .ow none (.list b619.2), .un, .un, .un, .un]) (et_w (ew_and (γ := Bool × (List D)) (fun (r577 : Bool × (List D)) => [.ow (some (pa 0)) (.list r577.2), .rd (.list a.2), .ow none (.list b545.2.1), .ow none (.list b545.2.2), .v q11.2.2.1, .v g547.1, .v g547.2, .ow none (.list a548), .un, .un, .un, .un]) (fun (r577 : Bool × (List D)) => r577.1) (fun (a565 : Bool) (r576 : Bool × (List D)) => (r576.1, r576.2)) (fun (a565 : Bool) => (false, b545.1)) (et_cmpP hu (ev_al 3) (fun (_u563 : Unit) => (ev_lst (γ := List D) (fun _ => [.ow (some (pa 0)) (.list b545.1), .rd (.list a.2), .ow none (.list b545.2.1), .ow none (.list b545.2.2), .v q11.2.2.1, .v g547.1, .v g547.2, .ow none (.list a548), .un, .un, .un, .un]) (fun l => .ow none (.list l)) (fun _ l => l) (fun _ => []) ea_nil))) (fun (a565 : Bool) => (ew_and1 (et_cmp (γ := Bool × (List D)) (fun (r576 : Bool × (List D)) => [.ow (some (pa 0)) (.list r576.2), .rd (.list a.2), .ow none (.list b545.2.1), .ow none (.list b545.2.2), .v q11.2.2.1, .v g547.1, .v g547.2, .ow none (.list a548), .un, .un, .un, .un]) (fun (r576 : Bool × (List D)) => r576.1) (fun (r572 : D × (List D)) (a573 : D) (d575 : Bool) => (d575, r572.2)) (fun (r572 : D × (List D)) (a573 : D) => r572.1) (fun (r572 : D × (List D)) (a573 : D) => a573) hu (ev_cd (γ := D × (List D)) (k := 1) (αc := (List D) × D) (βc := D × (List D)) (fun (r572 : D × (List D)) => [.ow (some (pa 0)) (.list r572.2), .rd (.list a.2), .ow none (.list b545.2.1), .ow none (.list b545.2.2), .v q11.2.2.1, .v g547.1, .v g547.2, .ow none (.list a548), .un, .un, .un, .un]) (fun (r572 : D × (List D)) => .v r572.1) (fun (q570 : Unit × D) => (b545.1, q570.2)) (fun (q570 : Unit × D) (b571 : D × (List D)) => (b571.1, b571.2)) [] d__law_draw hgd (hr.mono (by decide)) tk (fun _ => .nil) (ea_cons (Rs := fun (q570 : Unit × D) => [.al 0, .v q570.2]) (fun (q570 : Unit × D) => [.ow (some (pa 0)) (.list b545.1), .rd (.list a.2), .ow none (.list b545.2.1), .ow none (.list b545.2.2), .v q11.2.2.1, .v g547.1, .v g547.2, .ow none (.list a548), .un, .un, .un, .un]) (fun (_u568 : Unit) (a569 : D) => (_u568, a569)) (ev_al 0) (fun (_u568 : Unit) => (ea_one ev_int))) (fun (q570 : Unit × D) => (.cons (.ai _ _ _ rfl) (.cons (.v _) .nil)))) (fun (r572 : D × (List D)) => (ev_v 4))))))) (fun (r577 : Bool × (List D)) => (es_S [.ow (some (pa 0)) (.list r577.2), .rd (.list a.2), .ow none (.list b545.2.1), .ow none (.list b545.2.2), .v q11.2.2.1, .v g547.1, .v g547.2, .ow none (.list a548), .un, .un, .un, .un] (es_k 7 (ek_compS (β := (List D)) (SJ := fun (b645 : (List D)) => [.ow (some (pa 0)) (.list b645), .rd (.list a.2), .ow none (.list b545.2.1), .ow none (.list b545.2.2), .v q11.2.2.1, .v g547.1, .v g547.2, .ow none (.list a548), .un, .un, .un, .un]) (S' := fun (r659 : (List D) × (List D)) => [.ow (some (pa 0)) (.list r659.2), .rd (.list a.2), .ow none (.list b545.2.1), .ow none (.list b545.2.2), .v q11.2.2.1, .v g547.1, .v g547.2, .ow none (.list a548), .un, .un, .un, .un]) (R := fun (r659 : (List D) × (List D)) => .ow none (.list r659.1)) (Sg := fun (b645 : (List D)) (d646 : D) _ => [.ow (some (pa 0)) (.list b645), .rd (.list a.2), .ow none (.list b545.2.1), .ow none (.list b545.2.2), .v q11.2.2.1, .v g547.1, .v g547.2, .ow none (.list a548), .un, .un, .v d646, .un]) (S2 := fun (b645 : (List D)) (d646 : D) _ _t => [.ow (some (pa 0)) (.list b645), .rd (.list a.2), .ow none (.list b545.2.1), .ow none (.list b545.2.2), .v q11.2.2.1, .v g547.1, .v g547.2, .ow none (.list a548), .un, .un, .v d646, .un]) (Se := fun (b645 : (List D)) (d646 : D) _ _t (r658 : D × (List D)) => [.ow (some (pa 0)) (.list r658.2), .rd (.list a.2), .ow none (.list b545.2.1), .ow none (.list b545.2.2), .v q11.2.2.1, .v g547.1, .v g547.2, .ow none (.list a548), .un, .un, .v d646, .un]) (mg := fun (b645 : (List D)) (d646 : D) => Res.ok ()) (mt := fun (b645 : (List D)) (d646 : D) _ => Res.ok ()) (me := fun (b645 : (List D)) (d646 : D) _ _t => (Res.ok ()).bind fun (_u647 : Unit) => (((Res.ok ()).bind fun (_u651 : Unit) => ((Res.ok ()).bind fun (_u652 : Unit) => opLen [(D.list b545.2.2)]).bind fun (a653 : D) => .ok (_u651, a653)).bind fun (q654 : Unit × D) => (m_law_draw_v2 (b645, q654.2)).bind fun (b655 : D × (List D)) => .ok (b655.1, b655.2)).bind fun (r656 : D × (List D)) => (opIx (D.list b545.2.2) r656.1).bind fun (d657 : D) => .ok (d657, r656.2)) (y := fun (r658 : D × (List D)) => r658.1) (bt := (fun _ => true)) [("turn", 10)] (fun (r644 : Int × (List D)) z660 => (z660.2, z660.1)) (fun (r644 : Int × (List D)) => r644.2) (fun (b645 : (List D)) (d646 : D) _ _t => b645) (fun (b645 : (List D)) (d646 : D) _ _t (r658 : D × (List D)) => r658.2) hc nd (ei_range1 (γ := Int × (List D)) (fun (r644 : Int × (List D)) => [.ow (some (pa 0)) (.list r644.2), .rd (.list a.2), .ow none (.list b545.2.1), .ow none (.list b545.2.2), .v q11.2.2.1, .v g547.1, .v g547.2, .ow none (.list a548), .un, .un, .un, .un]) (fun (r642 : D × (List D)) i643 => (i643, r642.2)) (fun (r644 : Int × (List D)) => rngD 0 r644.1) (fun (r642 : D × (List D)) => r642.1) T.b_range (ev_bin (γ := D × (List D)) (fun (r642 : D × (List D)) => [.ow (some (pa 0)) (.list r642.2), .rd (.list a.2), .ow none (.list b545.2.1), .ow none (.list b545.2.2), .v q11.2.2.1, .v g547.1, .v g547.2, .ow none (.list a548), .un, .un, .un, .un]) (fun (r642 : D × (List D)) => .v r642.1) (fun (a633 : D) (r640 : D × (List D)) (d641 : D) => (d641, r640.2)) (fun (a633 : D) (r640 : D × (List D)) => a633) (fun (a633 : D) (r640 : D × (List D)) => r640.1) ev_int (fun (a633 : D) => (ev_cd (γ := D × (List D)) (k := 1) (αc := (List D) × D) (βc := D × (List D)) (fun (r640 : D × (List D)) => [.ow (some (pa 0)) (.list r640.2), .rd (.list a.2), .ow none (.list b545.2.1), .ow none (.list b545.2.2), .v q11.2.2.1, .v g547.1, .v g547.2, .ow none (.list a548), .un, .un, .un, .un]) (fun (r640 : D × (List D)) => .v r640.1) (fun (q638 : Unit × D) => (r577.2, q638.2)) (fun (q638 : Unit × D) (b639 : D × (List D)) => (b639.1, b639.2)) [] d__law_draw hgd (hr.mono (by decide)) tk (fun _ => .nil) (ea_cons (Rs := fun (q638 : Unit × D) => [.al 0, .v q638.2]) (fun (q638 : Unit × D) => [.ow (some (pa 0)) (.list r577.2), .rd (.list a.2), .ow none (.list b545.2.1), .ow none (.list b545.2.2), .v q11.2.2.1, .v g547.1, .v g547.2, .ow none (.list a548), .un, .un, .un, .un]) (fun (_u636 : Unit) (a637 : D) => (_u636, a637)) (ev_al 0) (fun (_u636 : Unit) => (ea_one ev_int))) (fun (q638 : Unit × D) => (.cons (.ai _ _ _ rfl) (.cons (.v _) .nil))))))) (fun (r644 : Int × (List D)) => (WL.refl _)) (fun _ _ _ _ _ (b645 : (List D)) (d646 : D) => (eg_name 10 (by exact nd))) (fun _ _ _ _ _ (b645 : (List D)) (d646 : D) _ (r644 : Int × (List D)) _ => ets_nil) (fun _ _ _ _ _ (b645 : (List D)) (d646 : D) _ _t (r644 : Int × (List D)) _ => (ev_ix (γ := D × (List D)) (fun (r658 : D × (List D)) => [.ow (some (pa 0)) (.list r658.2), .rd (.list a.2), .ow none (.list b545.2.1), .ow none (.list b545.2.2), .v q11.2.2.1, .v g547.1, .v g547.2, .ow none (.list a548), .un, .un, .v d646, .un]) (fun (r658 : D × (List D)) => .v r658.1) (fun (_u647 : Unit) (r656 : D × (List D)) (d657 : D) => (d657, r656.2)) (fun (_u647 : Unit) (r656 : D × (List D)) => (D.list b545.2.2)) (fun (_u647 : Unit) (r656 : D × (List D)) => r656.1) (ev_al 3) (fun (_u647 : Unit) => (ev_cd (γ := D × (List D)) (k := 1) (αc := (List D) × D) (βc := D × (List D)) (fun (r656 : D × (List D)) => [.ow (some (pa 0)) (.list r656.2), .rd (.list a.2), .ow none (.list b545.2.1), .ow none (.list b545.2.2), .v q11.2.2.1, .v g547.1, .v g547.2, .ow none (.list a548), .un, .un, .v d646, .un]) (fun (r656 : D × (List D)) => .v r656.1) (fun (q654 : Unit × D) => (b645, q654.2)) (fun (q654 : Unit × D) (b655 : D × (List D)) => (b655.1, b655.2)) [] d__law_draw (by exact hgd) (by exact hr.mono (by decide)) takesW (fun _ => .nil) (ea_cons (Rs := fun (q654 : Unit × D) => [.al 0, .v q654.2]) (fun (q654 : Unit × D) => [.ow (some (pa 0)) (.list b645), .rd (.list a.2), .ow none (.list b545.2.1), .ow none (.list b545.2.2), .v q11.2.2.1, .v g547.1, .v g547.2, .ow none (.list a548), .un, .un, .v d646, .un]) (fun (_u651 : Unit) (a653 : D) => (_u651, a653)) (ev_al 0) (fun (_u651 : Unit) => (ea_one (ev_f1 (op := opLen) len_ok len_ne T.b_len (ev_al 3))))) (fun (q654 : Unit × D) => (.cons (.ai _ _ _ rfl) (.cons (.v _) .nil))))))) (fun (b645 : (List D)) (d646 : D) _ _t => (WL.refl _)) (fun (b645 : (List D)) (d646 : D) _ _t (r658 : D × (List D)) => (WL.refl _))) (fun (r659 : (List D) × (List D)) => (es_S [.ow (some (pa 0)) (.list r659.2), .rd (.list a.2), .ow none (.list b545.2.1), .ow none (.list b545.2.2), .v q11.2.2.1, .v g547.1, .v g547.2, .ow none (.list r659.1), .un, .un, .un, .un] (es_end (r659.2, r659.1) (WL.refl _))))))) (fun (r577 : Bool × (List D)) => (es_S [.ow (some (pa 0)) (.list r577.2), .rd (.list a.2), .ow none (.list b545.2.1), .ow none (.list b545.2.2), .v q11.2.2.1, .v g547.1, .v g547.2, .ow none (.list a548), .un, .un, .un, .un] (es_end (r577.2, a548) (WL.refl _)))) (fun (b619 : (List D) × (List D)) => (es_forF 8 (fun (b690 : (List D)) => [.ow (some (pa 0)) (.list b619.1), .rd (.list a.2), .ow none (.list b545.2.1), .ow none (.list b690), .v q11.2.2.1, .v g547.1, .v g547.2, .ow none (.list b619.2), .un, .un, .un, .un]) (fun (_u661 : Unit) => b545.2.2) nd (passes_of rfl) hc (ei_list (fun (_u661 : Unit) => b619.2) (ev_al 7)) (fun (_u661 : Unit) => (WL.refl _)) (fun (_u661 : Unit) (b690 : (List D)) (d691 : D) => (es_S [.ow (some (pa 0)) (.list b619.1), .rd (.list a.2), .ow none (.list b545.2.1), .ow none (.list b690), .v q11.2.2.1, .v g547.1, .v g547.2, .ow none (.list b619.2), .v d691, .un, .un, .un] (es_asg 3 (ev_cat (γ := (List D)) (fun (r703 : (List D)) => [.ow (some (pa 0)) (.list b619.1), .rd (.list a.2), .ow none (.list b545.2.1), .ow none (.list b690), .v q11.2.2.1, .v g547.1, .v g547.2, .ow none (.list b619.2), .v d691, .un, .un, .un]) (fun (r703 : (List D)) => .ow none (.list r703)) (fun (a698 : List D) (r701 : (List D)) (d702 : List D) => d702) (fun (a698 : List D) (r701 : (List D)) => a698) (fun (a698 : List D) (r701 : (List D)) => r701) (ev_k (ek_compO [("one", 11)] hc nd (ei_list (fun (_u697 : Unit) => b690) (ev_al 3)) (fun _ _ _ _ _ (d692 : D) => (eg_name 11 (by exact nd))) (fun _ _ _ _ _ (d692 : D) _ (_u697 : Unit) _ => ets_one (et_cmpP (by exact hu) (ev_v 11) (fun (a693 : D) => (ev_v 8)))) (fun _ _ _ _ _ (d692 : D) _ (_u697 : Unit) _ => (ev_v 11)))) (fun (a698 : List D) => (ev_lst (γ := (List D)) (fun (r701 : (List D)) => [.ow (some (pa 0)) (.list b619.1), .rd (.list a.2), .ow none (.list b545.2.1), .ow none (.list b690), .v q11.2.2.1, .v g547.1, .v g547.2, .ow none (.list b619.2), .v d691, .un, .un, .un]) (fun (r701 : (List D)) => .ow none (.list r701)) (fun (a699 : D) (l700 : List D) => l700) (fun (a699 : D) => [a699]) (ea_one (ev_v 8))))) (fun (r703 : (List D)) => (es_S [.ow (some (pa 0)) (.list b619.1), .rd (.list a.2), .ow none (.list b545.2.1), .ow none (.list r703), .v q11.2.2.1, .v g547.1, .v g547.2, .ow none (.list b619.2), .v d691, .un, .un, .un] (es_end r703 (WL.cons (.rfl _) (.cons (.rfl _) (.cons (.rfl _) (.cons (.rfl _) (.cons (.rfl _) (.cons (.rfl _) (.cons (.rfl _) (.cons (.rfl _) (.cons (.un _) (.cons (.rfl _) (.cons (.rfl _) (.cons (.rfl _) .nil))))))))))))))) nd))) (fun (b690 : (List D)) => (es_asg 9 (ev_lst (γ := List D) (fun _ => [.ow (some (pa 0)) (.list b619.1), .rd (.list a.2), .ow none (.list b545.2.1), .ow none (.list b690), .v q11.2.2.1, .v g547.1, .v g547.2, .ow none (.list b619.2), .un, .un, .un, .un]) (fun l => .ow none (.list l)) (fun _ l => l) (fun _ => []) ea_nil) (fun (a704 : List D) => (es_S [.ow (some (pa 0)) (.list b619.1), .rd (.list a.2), .ow none (.list b545.2.1), .ow none (.list b690), .v q11.2.2.1, .v g547.1, .v g547.2, .ow none (.list b619.2), .un, .ow none (.list a704), .un, .un] (es_ifj (SJ := fun (b733 : (List D) × (List D)) => [.ow (some (pa 0)) (.list b733.1), .rd (.list a.2), .ow none (.list b545.2.1), .ow none (.list b690), .v q11.2.2.1, .v g547.1, .v g547.2, .ow none (.list b619.2), .un, .ow none (.list b733.2), .un, .un]) (et_cmpP hu (ev_v 5) (fun (a705 : D) => ev_str)) (fun (a707 : Bool) => (es_S [.ow (some (pa 0)) (.list b619.1), .rd (.list a.2), .ow none (.list b545.2.1), .ow none (.list b690), .v q11.2.2.1, .v g547.1, .v g547.2, .ow none (.list b619.2), .un, .ow none (.list a704), .un, .un] (es_asg 9 (ev_cd (γ := (List D) × (List D)) (k := 2) (αc := (List D) × (List D)) (βc := (List D) × (List D)) (fun (r758 : (List D) × (List D)) => [.ow (some (pa 0)) (.list r758.2), .rd (.list a.2), .ow none (.list b545.2.1), .ow none (.list b690), .v q11.2.2.1, .v g547.1, .v g547.2, .ow none (.list b619.2), .un, .ow none (.list a704), .un, .un]) (fun (r758 : (List D) × (List D)) => .ow none (.list r758.1)) (fun (q756 : Unit × (List D)) => (b619.1, q756.2)) (fun (q756 : Unit × (List D)) (b757 : (List D) × (List D)) => (b757.1, b757.2)) [] d__law_shuffled hgd (hr.mono (by decide)) tk (fun _ => .nil) (ea_cons (Rs := fun (q756 : Unit × (List D)) => [.al 0, .ow none (.list q756.2)]) (fun (q756 : Unit × (List D)) => [.ow (some (pa 0)) (.list b619.1), .rd (.list a.2), .ow none (.list b545.2.1), .ow none (.list b690), .v q11.2.2.1, .v g547.1, .v g547.2, .ow none (.list b619.2), .un, .ow none (.list a704), .un, .un]) (fun (_u745 : Unit) (r755 : (List D)) => (_u745, r755)) (ev_al 0) (fun (_u745 : Unit) => (ea_one (ev_slL (δ := (List D)) (o2 := fun (_u746 : Unit) (_n747 : Unit) => none) (o3 := fun (_u746 : Unit) (_n747 : Unit) (r753 : Int) => (some r753)) (fun (r755 : (List D)) => [.ow (some (pa 0)) (.list b619.1), .rd (.list a.2), .ow none (.list b545.2.1), .ow none (.list b690), .v q11.2.2.1, .v g547.1, .v g547.2, .ow none (.list b619.2), .un, .ow none (.list a704), .un, .un]) (fun (r755 : (List D)) => .ow none (.list r755)) (fun (_u746 : Unit) (_n747 : Unit) (r753 : Int) (d754 : List D) => d754) (fun (_u746 : Unit) (_n747 : Unit) (r753 : Int) => b690) (ev_al 3) (fun (_u746 : Unit) => eo_none) (fun (_u746 : Unit) (_n747 : Unit) => (eo_some (γ := Int) (fun (r753 : Int) => [.ow (some (pa 0)) (.list b619.1), .rd (.list a.2), .ow none (.list b545.2.1), .ow none (.list b690), .v q11.2.2.1, .v g547.1, .v g547.2, .ow none (.list b619.2), .un, .ow none (.list a704), .un, .un]) (fun (r753 : Int) => some r753) (fun (r751 : D) i752 => i752) (fun (r751 : D) => r751) (ev_meth1 (γ := D) (op := opIndex) PySem.F.plainAttrs_list PySem.F.slot_list_index PySem.F.type_list_index index_ok opIndex_ne (fun (r751 : D) => [.ow (some (pa 0)) (.list b619.1), .rd (.list a.2), .ow none (.list b545.2.1), .ow none (.list b690), .v q11.2.2.1, .v g547.1, .v g547.2, .ow none (.list b619.2), .un, .ow none (.list a704), .un, .un]) (fun (r751 : D) => .v r751) (fun (_u748 : Unit) (a749 : D) (d750 : D) => d750) (fun (_u748 : Unit) => (D.list b690)) (fun (_u748 : Unit) (a749 : D) => (D.list b690)) (fun (_u748 : Unit) (a749 : D) => a749) (ev_al 3) (fun (_u748 : Unit) => (ev_v 6))))))))) (fun (q756 : Unit × (List D)) => (.cons (.ai _ _ _ rfl) (.cons (.owr _ _) .nil)))) (fun (r758 : (List D) × (List D)) => (es_S [.ow (some (pa 0)) (.list r758.2), .rd (.list a.2), .ow none (.list b545.2.1), .ow none (.list b690), .v q11.2.2.1, .v g547.1, .v g547.2, .ow none (.list b619.2), .un, .ow none (.list r758.1), .un, .un] (es_end (r758.2, r758.1) (WL.refl _)))) nd))) (fun (a707 : Bool) => (es_S [.ow (some (pa 0)) (.list b619.1), .rd (.list a.2), .ow none (.list b545.2.1), .ow none (.list b690), .v q11.2.2.1, .v g547.1, .v g547.2, .ow none (.list b619.2), .un, .ow none (.list a704), .un, .un] (es_end (b619.1, a704) (WL.refl _)))) (fun (b733 : (List D) × (List D)) => (es_asg 2 (ev_cat (γ := (List D)) (fun (r772 : (List D)) => [.ow (some (pa 0)) (.list b733.1), .rd (.list a.2), .ow none (.list b545.2.1), .ow none (.list b690), .v q11.2.2.1, .v g547.1, .v g547.2, .ow none (.list b619.2), .un, .ow none (.list b733.2), .un, .un]) (fun (r772 : (List D)) => .ow none (.list r772)) (fun (_u759 : Unit) (a770 : List D) (d771 : List D) => d771) (fun (_u759 : Unit) (a770 : List D) => b545.2.1) (fun (_u759 : Unit) (a770 : List D) => a770) (ev_al 2) (fun (_u759 : Unit) => (ev_k (ek_compM [("other", 8)] hc nd (ei_list (fun (r769 : (List D)) => r769) (ev_cat (γ := (List D)) (fun (r769 : (List D)) => [.ow (some (pa 0)) (.list b733.1), .rd (.list a.2), .ow none (.list b545.2.1), .ow none (.list b690), .v q11.2.2.1, .v g547.1, .v g547.2, .ow none (.list b619.2), .un, .ow none (.list b733.2), .un, .un]) (fun (r769 : (List D)) => .ow none (.list r769)) (fun (_u766 : Unit) (_u767 : Unit) (d768 : List D) => d768) (fun (_u766 : Unit) (_u767 : Unit) => b619.2) (fun (_u766 : Unit) (_u767 : Unit) => b733.2) (ev_al 7) (fun (_u766 : Unit) => (ev_al 9)))) (fun _ _ _ _ _ (d760 : D) => (eg_name 8 (by exact nd))) (fun _ _ _ _ _ (d760 : D) _ (r769 : (List D)) _ => (ev_tup (γ := D) (fun (r765 : D) => [.ow (some (pa 0)) (.list b733.1), .rd (.list a.2), .ow none (.list b545.2.1), .ow none (.list b690), .v q11.2.2.1, .v g547.1, .v g547.2, .ow none (.list b619.2), .v d760, .ow none (.list b733.2), .un, .un]) (fun (r765 : D) => .v r765) (fun (q763 : D × D) l764 => (D.tup l764)) (fun (q763 : D × D) => [q763.1, q763.2]) (ea_cons (Rs := fun (q763 : D × D) => [.v q763.1, .v q763.2]) (fun (q763 : D × D) => [.ow (some (pa 0)) (.list b733.1), .rd (.list a.2), .ow none (.list b545.2.1), .ow none (.list b690), .v q11.2.2.1, .v g547.1, .v g547.2, .ow none (.list b619.2), .v d760, .ow none (.list b733.2), .un, .un]) (fun (a761 : D) (a762 : D) => (a761, a762)) ev_str (fun (a761 : D) => (ea_one (ev_v 8)))))))))) (fun (r772 : (List D)) => (es_S [.ow (some (pa 0)) (.list b733.1), .rd (.list a.2), .ow none (.list r772), .ow none (.list b690), .v q11.2.2.1, .v g547.1, .v g547.2, .ow none (.list b619.2), .un, .ow none (.list b733.2), .un, .un] (es_asg 3 (ev_cat (γ := (List D)) (fun (r787 : (List D)) => [.ow (some (pa 0)) (.list b733.1), .rd (.list a.2), .ow none (.list r772), .ow none (.list b690), .v q11.2.2.1, .v g547.1, .v g547.2, .ow none (.list b619.2), .un, .ow none (.list b733.2), .un, .un]) (fun (r787 : (List D)) => .ow none (.list r787)) (fun (a784 : List D) (_u785 : Unit) (d786 : List D) => d786) (fun (a784 : List D) (_u785 : Unit) => a784) (fun (a784 : List D) (_u785 : Unit) => b733.2) (ev_k (ek_compO [("one", 11)] hc nd (ei_list (fun (_u783 : Unit) => b690) (ev_al 3)) (fun _ _ _ _ _ (d773 : D) => (eg_name 11 (by exact nd))) (fun _ _ _ _ _ (d773 : D) _ (_u783 : Unit) _ => ets_one (et_cmpP (by exact hu) (ev_v 11) (fun (a774 : D) => (ev_cat (γ := (List D)) (fun (r780 : (List D)) => [.ow (some (pa 0)) (.list b733.1), .rd (.list a.2), .ow none (.list r772), .ow none (.list b690), .v q11.2.2.1, .v g547.1, .v g547.2, .ow none (.list b619.2), .un, .ow none (.list b733.2), .un, .v d773]) (fun (r780 : (List D)) => .ow none (.list r780)) (fun (_u775 : Unit) (r778 : (List D)) (d779 : List D) => d779) (fun (_u775 : Unit) (r778 : (List D)) => b733.2) (fun (_u775 : Unit) (r778 : (List D)) => r778) (ev_al 9) (fun (_u775 : Unit) => (ev_lst (γ := (List D)) (fun (r778 : (List D)) => [.ow (some (pa 0)) (.list b733.1), .rd (.list a.2), .ow none (.list r772), .ow none (.list b690), .v q11.2.2.1, .v g547.1, .v g547.2, .ow none (.list b619.2), .un, .ow none (.list b733.2), .un, .v d773]) (fun (r778 : (List D)) => .ow none (.list r778)) (fun (a776 : D) (l777 : List D) => l777) (fun (a776 : D) => [a776]) (ea_one (ev_v 6)))))))) (fun _ _ _ _ _ (d773 : D) _ (_u783 : Unit) _ => (ev_v 11)))) (fun (a784 : List D) => (ev_al 9))) (fun (r787 : (List D)) => (es_S [.ow (some (pa 0)) (.list b733.1), .rd (.list a.2), .ow none (.list r772), .ow none (.list r787), .v q11.2.2.1, .v g547.1, .v g547.2, .ow none (.list b619.2), .un, .ow none (.list b733.2), .un, .un] (es_ifj (SJ := fun (b797 : (List D)) => [.ow (some (pa 0)) (.list b733.1), .rd (.list a.2), .ow none (.list r772), .ow none (.list b797), .v q11.2.2.1, .v g547.1, .v g547.2, .ow none (.list b619.2), .un, .ow none (.list b733.2), .un, .un]) (et_cmpP hu (ev_v 5) (fun (a788 : D) => ev_str)) (fun (a790 : Bool) => (es_S [.ow (some (pa 0)) (.list b733.1), .rd (.list a.2), .ow none (.list r772), .ow none (.list r787), .v q11.2.2.1, .v g547.1, .v g547.2, .ow none (.list b619.2), .un, .ow none (.list b733.2), .un, .un] (es_asg 3 (ev_cat (γ := (List D)) (fun (r803 : (List D)) => [.ow (some (pa 0)) (.list b733.1), .rd (.list a.2), .ow none (.list r772), .ow none (.list r787), .v q11.2.2.1, .v g547.1, .v g547.2, .ow none (.list b619.2), .un, .ow none (.list b733.2), .un, .un]) (fun (r803 : (List D)) => .ow none (.list r803)) (fun (_u798 : Unit) (r801 : (List D)) (d802 : List D) => d802) (fun (_u798 : Unit) (r801 : (List D)) => r787) (fun (_u798 : Unit) (r801 : (List D)) => r801) (ev_al 3) (fun (_u798 : Unit) => (ev_lst (γ := (List D)) (fun (r801 : (List D)) => [.ow (some (pa 0)) (.list b733.1), .rd (.list a.2), .ow none (.list r772), .ow none (.list r787), .v q11.2.2.1, .v g547.1, .v g547.2, .ow none (.list b619.2), .un, .ow none (.list b733.2), .un, .un]) (fun (r801 : (List D)) => .ow none (.list r801)) (fun (a799 : D) (l800 : List D) => l800) (fun (a799 : D) => [a799]) (ea_one (ev_v 6))))) (fun (r803 : (List D)) => (es_S [.ow (some (pa 0)) (.list b733.1), .rd (.list a.2), .ow none (.list r772), .ow none (.list r803), .v q11.2.2.1, .v g547.1, .v g547.2, .ow none (.list b619.2), .un, .ow none (.list b733.2), .un, .un] (es_end r803 (WL.refl _)))) nd))) (fun (a790 : Bool) => (es_S [.ow (some (pa 0)) (.list b733.1), .rd (.list a.2), .ow none (.list r772), .ow none (.list r787), .v q11.2.2.1, .v g547.1, .v g547.2, .ow none (.list b619.2), .un, .ow none (.list b733.2), .un, .un] (es_end r787 (WL.refl _)))) (fun (b797 : (List D)) => (es_expr (ev_m1 (γ := D × (List D)) (op := opAppend) PySem.F.slot_list_append PySem.F.type_list_append append_ok append_ne 2 (fun (r810 : D × (List D)) => [.ow (some (pa 0)) (.list b733.1), .rd (.list a.2), .ow none (.list r810.2), .ow none (.list b797), .v q11.2.2.1, .v g547.1, .v g547.2, .ow none (.list b619.2), .un, .ow none (.list b733.2), .un, .un]) (fun (r810 : D × (List D)) => .v r810.1) (fun (r808 : D) d809 => (d809.1, d809.2)) (fun _ => none) (fun (r808 : D) => r772) (fun (r808 : D) => [r808]) (ea_one (ev_tup (γ := D) (fun (r808 : D) => [.ow (some (pa 0)) (.list b733.1), .rd (.list a.2), .ow none (.list r772), .ow none (.list b797), .v q11.2.2.1, .v g547.1, .v g547.2, .ow none (.list b619.2), .un, .ow none (.list b733.2), .un, .un]) (fun (r808 : D) => .v r808) (fun (q806 : D × D) l807 => (D.tup l807)) (fun (q806 : D × D) => [q806.1, q806.2]) (ea_cons (Rs := fun (q806 : D × D) => [.v q806.1, .v q806.2]) (fun (q806 : D × D) => [.ow (some (pa 0)) (.list b733.1), .rd (.list a.2), .ow none (.list r772), .ow none (.list b797), .v q11.2.2.1, .v g547.1, .v g547.2, .ow none (.list b619.2), .un, .ow none (.list b733.2), .un, .un]) (fun (a804 : D) (a805 : D) => (a804, a805)) (ev_v 5) (fun (a804 : D) => (ea_one (ev_v 6))))))) (fun (r810 : D × (List D)) => (es_S [.ow (some (pa 0)) (.list b733.1), .rd (.list a.2), .ow none (.list r810.2), .ow none (.list b797), .v q11.2.2.1, .v g547.1, .v g547.2, .ow none (.list b619.2), .un, .ow none (.list b733.2), .un, .un] (es_end (b733.1, r810.2, b797) (WL.cons (.rfl _) (.cons (.rfl _) (.cons (.rfl _) (.cons (.rfl _) (.cons (.rfl _) (.cons (.un _) (.cons (.un _) (.cons (.un _) (.cons (.rfl _) (.cons (.un _) (.cons (.rfl _) (.cons (.rfl _) .nil)))))))))))))))))))) nd))) nd))))) nd))))))) nd))) (fun (b545 : (List D) × (List D) × (List D)) => (es_retW (Sr := fun (a811 : Unit) => [.ow (some (pa 0)) (.list b545.1), .un, .un, .un, .un, .un, .un, .un, .un, .un, .un, .un]) (fun (a811 : Unit) => (b545.2.1, b545.1)) (ev_mv 2) (fun (a811 : Unit) => (WL.cons (.rfl _) (.cons (.un _) (.cons (.rfl _) (.cons (.un _) (.cons (.un _) (.cons (.rfl _) (.cons (.rfl _) (.cons (.rfl _) (.cons (.rfl _) (.cons (.rfl _) (.cons (.rfl _) (.cons (.rfl _) .nil)))))))))))))))))) nd hc)
/-! ### _law_first_wrong -/
def k__law_first_wrong (pa : Nat → Addr) : D → Out := fun b => .rt [.un, .un, .un, .un, .un, .un] (.v b)
abbrev sp__law_first_wrong (K : PySem.W.Frag) (mg : Str → Option Value) : Sp := spF K mg 1 (fun a : (List D) => [.rd (.list a)]) [] m_law_first_wrong (fun b : D => [.un]) (fun b => .v b)
theorem sc__law_first_wrong : FnScope ["lines", "last", "position", "word", "name", "other"] ["lines"] (defScope (topS 27)) := ⟨rfl, rfl, rfl, by decide +kernel, rfl, by decide +kernel, by decide +kernel⟩
theorem w__law_first_wrong {P : Program} {w : World} {K : PySem.W.Frag} {mg : Str → Option Value} {base : Heap} (T : Tx K mg) {f : Addr} {fd : FuncData} (F : FnX K "_law_first_wrong" "_law_first_wrong" (topS 27) f fd) :
    FnG P w K mg base 1 f fd ["lines"] (sp__law_first_wrong K mg) := by
  refine fn_mir (K0 := k__law_first_wrong) (Sr := fun pa b => [.un, .un, .un, .un, .un, .un]) F sc__law_first_wrong 5 rfl ?_ (fun _ _ => .inl rfl) (SrL.all fun a pa b => (.un .nil)) (fun _ => rfl) (fun _ _ => Nat.le_of_ble_eq_true rfl) (fun _ => rfl)
  intro X a pa w0 hK hmg hN hc hgd hr hX tk hw
  obtain ⟨cdv, A, outer, s, H, E, rfl⟩ := hX
  obtain ⟨W0, S0'⟩ := w0
  cases hw
  have hu := huG hr
  have nd := sc__law_first_wrong.nd
  exact es_S [.rd (.list a), .un, .un, .un, .un, .un] (es_asg 1 ev_dnew (fun (_u1 : Unit) => (es_S [.rd (.list a), .ow none (.dict ([])), .un, .un, .un, .un] (es_forGE (KE := (k__law_first_wrong pa)) (fun (b53 : (List (D × D))) => [.rd (.list a), .ow none (.dict b53), .un, .un, .un, .un]) (fun (_u2 : Unit) => []) (fun (o80 : D) => o80) (passes_of rfl) hc (ei_enum (fun (_u2 : Unit) => enumD a) (fun (_u2 : Unit) => a) T.b_enumerate (ev_al 0)) (fun (_u2 : Unit) => (WL.refl _)) (fun (b53 : (List (D × D))) (d54 : D) => (eg_n12 2 3 4 nd hc)) (fun (_u2 : Unit) (b53 : (List (D × D))) (d54 : D) (g55 : D × D × D) => (es_S [.rd (.list a), .ow none (.dict b53), .v g55.1, .v g55.2.1, .v g55.2.2, .un] (es_ifl (et_cmpP hu (ev_v 3) (fun (a56 : D) => ev_str)) (fun (a58 : Bool) => (es_S [.rd (.list a), .ow none (.dict b53), .v g55.1, .v g55.2.1, .v g55.2.2, .un] (es_ifx (ε := D) (KE := (k__law_first_wrong pa)) (fun o75 => (Sum.inr (Ex.ret o75))) (et_cmpP hu (ev_k (ek_borrow 1 (ek_compOL 1 [("other", 5)] hc nd (lki_keys 1) (fun _ _ _ _ _ (d59 : D) => (eg_name 5 (by exact nd))) (fun _ _ _ _ _ (d59 : D) _ _ => ets_one (et_cmpP (by exact hu) (ev_dixP (by exact hu) (ev_al 1) (fun (_u60 : Unit) => (ev_v 5))) (fun (a62 : D) => (ev_dixP (by exact hu) (ev_al 1) (fun (_u63 : Unit) => (ev_v 4)))))) (fun _ _ _ _ _ (d59 : D) _ _ => (ev_v 5))))) (fun (a68 : List D) => (ev_lst (γ := List D) (fun _ => [.rd (.list a), .ow none (.dict b53), .v g55.1, .v g55.2.1, .v g55.2.2, .un]) (fun l => .ow none (.list l)) (fun _ l => l) (fun _ => []) ea_nil))) (fun (a70 : Bool) => (es_S [.rd (.list a), .ow none (.dict b53), .v g55.1, .v g55.2.1, .v g55.2.2, .un] (es_retW (Sr := fun (a71 : D) => [.un, .un, .un, .un, .un, .un]) (fun (a71 : D) => a71) (ev_v 2) (fun (a71 : D) => (WL.cons (.un _) (.cons (.un _) (.cons (.un _) (.cons (.un _) (.cons (.un _) (.cons (.rfl _) .nil)))))))))) (fun (a70 : Bool) => (es_S [.rd (.list a), .ow none (.dict b53), .v g55.1, .v g55.2.1, .v g55.2.2, .un] (es_expr (ev_dm1 (γ := D × (List (D × D))) (op := opDPop) PySem.F.slot_dict_pop PySem.F.type_dict_pop (dpop_ok) dpop_ne 1 (fun (r74 : D × (List (D × D))) => [.rd (.list a), .ow none (.dict r74.2), .v g55.1, .v g55.2.1, .v g55.2.2, .un]) (fun (r74 : D × (List (D × D))) => .v r74.1) (fun (a72 : D) d73 => (d73.1, d73.2)) (fun _ => none) (fun (a72 : D) => b53) (fun (a72 : D) => [a72]) (ea_one (ev_v 4))) (fun (r74 : D × (List (D × D))) => (es_S [.rd (.list a), .ow none (.dict r74.2), .v g55.1, .v g55.2.1, .v g55.2.2, .un] (es_end (Sum.inl r74.2) (WL.cons (.rfl _) (.cons (.rfl _) (.cons (.un _) (.cons (.un _) (.cons (.un _) (.cons (.rfl _) .nil))))))))))))))) (fun (a58 : Bool) => (es_S [.rd (.list a), .ow none (.dict b53), .v g55.1, .v g55.2.1, .v g55.2.2, .un] (es_dputR 1 (fun _ _ => none) (fun (a76 : D) (a77 : D) => b53) (fun (a76 : D) => a76) (fun (a76 : D) (a77 : D) => a77) hu (ev_v 2) (fun (a76 : D) => (ev_v 4)) (fun (a76 : D) (a77 : D) (r78 : List (D × D)) => (es_S [.rd (.list a), .ow none (.dict r78), .v g55.1, .v g55.2.1, .v g55.2.2, .un] (es_end (Sum.inl r78) (WL.cons (.rfl _) (.cons (.rfl _) (.cons (.un _) (.cons (.un _) (.cons (.un _) (.cons (.rfl _) .nil))))))))))))))) (fun (b53 : (List (D × D))) => (es_retW (Sr := fun (a79 : D) => [.un, .un, .un, .un, .un, .un]) (fun (a79 : D) => a79) ev_non (fun (a79 : D) => (WL.cons (.un _) (.cons (.un _) (.cons (.rfl _) (.cons (.rfl _) (.cons (.rfl _) (.cons (.rfl _) .nil)))))))))))) nd)
/-! ### is_name -/
def k_is_name (pa : Nat → Addr) : D → Out := fun b => .rt [.un, .un] (.v b)
abbrev sp_is_name (K : PySem.W.Frag) (mg : Str → Option Value) : Sp := spF K mg 1 (fun a : D => [.v a]) [] m_is_name (fun b : D => [.un]) (fun b => .v b)
theorem sc_is_name : FnScope ["value", "letter"] ["value"] (defScope (topS 10)) := ⟨rfl, rfl, rfl, by decide +kernel, rfl, by decide +kernel, by decide +kernel⟩
theorem w_is_name {P : Program} {w : World} {K : PySem.W.Frag} {mg : Str → Option Value} {base : Heap} (T : Tx K mg) {f : Addr} {fd : FuncData} (F : FnX K "is_name" "is_name" (topS 10) f fd) :
    FnG P w K mg base 1 f fd ["value"] (sp_is_name K mg) := by
  refine fn_mir (K0 := k_is_name) (Sr := fun pa b => [.un, .un]) F sc_is_name 1 rfl ?_ (fun _ _ => .inl rfl) (SrL.all fun a pa b => (.un .nil)) (fun _ => rfl) (fun _ _ => Nat.le_of_ble_eq_true rfl) (fun _ => rfl)
  intro X a pa w0 hK hmg hN hc hgd hr hX tk hw
  obtain ⟨cdv, A, outer, s, H, E, rfl⟩ := hX
  obtain ⟨W0, S0'⟩ := w0
  cases hw
  have hu := huG hr
  have nd := sc_is_name.nd
  obtain ⟨t_LETTERS, h_LETTERS⟩ := T.g_LETTERS
  obtain ⟨t_MOST_LETTERS, h_MOST_LETTERS⟩ := T.g_MOST_LETTERS
  exact es_S [.v a, .un] (es_ifx (ε := D) (KE := (k_is_name pa)) (fun o22 => o22) (et_w (ew_orP (et_notP (et_valP (ev_isi (T := "str") (d1 := fun (a1 : D) => a1) T.b_isinstance T.b_str (ev_v 0)))) (ew_or1 (et_notP (et_chain (fun (a5 : D) => a5) (fun (a7 : D) => a7) (fun (a8 : D) => a8) hu ev_int (fun (a5 : D) => (ev_f1 (op := opLen) len_ok len_ne T.b_len (ev_v 0))) (fun (a5 : D) (a7 : D) => (ev_gint h_MOST_LETTERS))))))) (fun (a11 : Bool) => (es_S [.v a, .un] (es_retW (Sr := fun (a12 : D) => [.un, .un]) (fun (a12 : D) => a12) ev_bl (fun (a12 : D) => (WL.cons (.un _) (.cons (.rfl _) .nil)))))) (fun (a11 : Bool) => (es_S [.v a, .un] (es_retW (Sr := fun (a21 : D) => [.un, .un]) (fun (a21 : D) => a21) (ev_f1 (op := opAll) (all_ok hc) all_ne T.b_all (ev_k (ek_compM [("letter", 1)] hc nd (ei_any (fun (a18 : D) => a18) (ev_v 0)) (fun _ _ _ _ _ (d13 : D) => (eg_name 1 (by exact nd))) (fun _ _ _ _ _ (d13 : D) _ (a19 : D × List D) _ => (ev_blP (ev_cmpP (by exact hu) (ev_v 1) (fun (a14 : D) => (ev_gstr h_LETTERS))))) (hv := fun _ => pvs_src)))) (fun (a21 : D) => (WL.cons (.un _) (.cons (.rfl _) .nil)))))))
/-! ### is_line -/
def k_is_line (pa : Nat → Addr) : D → Out := fun b => .rt [.un] (.v b)
abbrev sp_is_line (K : PySem.W.Frag) (mg : Str → Option Value) : Sp := spF K mg 1 (fun a : D => [.v a]) [] m_is_line (fun b : D => [.un]) (fun b => .v b)
theorem sc_is_line : FnScope ["value"] ["value"] (defScope (topS 11)) := ⟨rfl, rfl, rfl, by decide +kernel, rfl, by decide +kernel, by decide +kernel⟩
theorem w_is_line {P : Program} {w : World} {K : PySem.W.Frag} {mg : Str → Option Value} {base : Heap} (T : Tx K mg) (d_is_name : DefD P w K mg base 1 "is_name" 1 [] (sp_is_name K mg)) {f : Addr} {fd : FuncData} (F : FnX K "is_line" "is_line" (topS 11) f fd) :
    FnG P w K mg base 2 f fd ["value"] (sp_is_line K mg) := by
  refine fn_mir (K0 := k_is_line) (Sr := fun pa b => [.un]) F sc_is_line 0 rfl ?_ (fun _ _ => .inl rfl) (SrL.all fun a pa b => (.un .nil)) (fun _ => rfl) (fun _ _ => Nat.le_of_ble_eq_true rfl) (fun _ => rfl)
  intro X a pa w0 hK hmg hN hc hgd hr hX tk hw
  obtain ⟨cdv, A, outer, s, H, E, rfl⟩ := hX
  obtain ⟨W0, S0'⟩ := w0
  cases hw
  have hu := huG hr
  have nd := sc_is_line.nd
  obtain ⟨t_EVICT_logs, h_EVICT_logs⟩ := T.g_EVICT_logs
  obtain ⟨t_HIT, h_HIT⟩ := T.g_HIT
  obtain ⟨t_LOAD, h_LOAD⟩ := T.g_LOAD
  exact es_S [.v a] (es_ifx (ε := D) (KE := (k_is_line pa)) (fun o39 => o39) (et_w (ew_orP (et_notP (et_valP (ev_isi (T := "tuple") (d1 := fun (a1 : D) => a1) T.b_isinstance T.b_tuple (ev_v 0)))) (ew_orP (et_cmpP hu (ev_f1 (op := opLen) len_ok len_ne T.b_len (ev_v 0)) (fun (a6 : D) => ev_int)) (ew_or1 (et_notP (et_valP (ev_isi (T := "str") (d1 := fun (a11 : D) => a11) T.b_isinstance T.b_str (ev_ixP (ev_v 0) (fun (a9 : D) => ev_int))))))))) (fun (a15 : Bool) => (es_S [.v a] (es_retW (Sr := fun (a16 : D) => [.un]) (fun (a16 : D) => a16) ev_bl (fun (a16 : D) => (WL.cons (.un _) .nil))))) (fun (a15 : Bool) => (es_S [.v a] (es_retW (Sr := fun (a38 : D) => [.un]) (fun (a38 : D) => a38) (ev_blP (ev_band (ev_cmpP hu (ev_ixP (ev_v 0) (fun (a17 : D) => ev_int)) (fun (a19 : D) => (ev_tup (γ := D) (fun (r26 : D) => [.v a]) (fun (r26 : D) => .v r26) (fun (q24 : D × D × D) l25 => (D.tup l25)) (fun (q24 : D × D × D) => [q24.1, q24.2.1, q24.2.2]) (ea_cons (Rs := fun (q24 : D × D × D) => [.v q24.1, .v q24.2.1, .v q24.2.2]) (fun (q24 : D × D × D) => [.v a]) (fun (a20 : D) (q23 : D × D) => (a20, q23)) (ev_gstr h_LOAD) (fun (a20 : D) => (ea_cons (Rs := fun (q23 : D × D) => [.v q23.1, .v q23.2]) (fun (q23 : D × D) => [.v a]) (fun (a21 : D) (a22 : D) => (a21, a22)) (ev_gstr h_HIT) (fun (a21 : D) => (ea_one (ev_gstr h_EVICT_logs))))))))) (ev_band1 (ev_bcast (fun (r35 : D) => r35) (ev_cd (γ := D) (k := 1) (αc := D) (βc := D) (fun (r35 : D) => [.v a]) (fun (r35 : D) => .v r35) (fun (a33 : D) => a33) (fun (a33 : D) (b34 : D) => b34) [] d_is_name hgd (hr.mono (by decide)) tk (fun _ => .nil) (ea_one (ev_ixP (ev_v 0) (fun (a31 : D) => ev_int))) (fun (a33 : D) => (.cons (.v _) .nil))))))) (fun (a38 : D) => (WL.cons (.un _) .nil))))))
/-! ### cached_behind -/
def k_cached_behind (pa : Nat → Addr) : (Option (List D)) → Out := fun b => .rt [.un, .un, .un, .un, .un] (optS b)
abbrev sp_cached_behind (K : PySem.W.Frag) (mg : Str → Option Value) : Sp := spF K mg 2 (fun a : (List D) × D => [.rd (.list a.1), .v a.2]) [] m_cached_behind (fun b : (Option (List D)) => [.un, .un]) (fun b => optS b)
theorem sc_cached_behind : FnScope ["lines", "names", "cached", "word", "name"] ["lines", "names"] (defScope (topS 12)) := ⟨rfl, rfl, rfl, by decide +kernel, rfl, by decide +kernel, by decide +kernel⟩
theorem w_cached_behind {P : Program} {w : World} {K : PySem.W.Frag} {mg : Str → Option Value} {base : Heap} (T : Tx K mg) {f : Addr} {fd : FuncData} (F : FnX K "cached_behind" "cached_behind" (topS 12) f fd) :
    FnG P w K mg base 1 f fd ["lines", "names"] (sp_cached_behind K mg) := by
  refine fn_mir (K0 := k_cached_behind) (Sr := fun pa b => [.un, .un, .un, .un, .un]) F sc_cached_behind 3 rfl ?_ (fun _ _ => .inl rfl) (SrL.all fun a pa b => (.un (.un .nil))) (fun _ => rfl) (fun _ _ => Nat.le_of_ble_eq_true rfl) (fun _ => optS_noal _)
  intro X a pa w0 hK hmg hN hc hgd hr hX tk hw
  obtain ⟨cdv, A, outer, s, H, E, rfl⟩ := hX
  obtain ⟨W0, S0'⟩ := w0
  cases hw
  have hu := huG hr
  have nd := sc_cached_behind.nd
  obtain ⟨t_EVICT_logs, h_EVICT_logs⟩ := T.g_EVICT_logs
  obtain ⟨t_LOAD, h_LOAD⟩ := T.g_LOAD
  exact es_S [.rd (.list a.1), .v a.2, .un, .un, .un] (es_k 2 (ek_dcomp [("name", 4)] hc nd (ei_any (fun (a4 : D) => a4) (ev_v 1)) (fun _ _ _ _ _ (d1 : D) => (eg_name 4 (by exact nd))) (fun _ _ _ _ _ _ _ _ _ => ets_nilB) (fun _ _ _ _ _ (d1 : D) _ (a5 : D × List D) _ => (ev_v 4)) (fun _ _ _ _ _ (d1 : D) _ (a5 : D × List D) _ _ => ev_bl) (hv := fun _ => pvs_src)) (fun (a6 : List (D × D)) => (es_S [.rd (.list a.1), .v a.2, .ow none (.dict a6), .un, .un] (es_forGE (KE := (k_cached_behind pa)) (fun (b52 : (List (D × D))) => [.rd (.list a.1), .v a.2, .ow none (.dict b52), .un, .un]) (fun (_u7 : Unit) => a6) (fun (o78 : (Option (List D))) => o78) (passes_of rfl) hc (ei_list (fun (_u7 : Unit) => a.1) (ev_al 0)) (fun (_u7 : Unit) => (WL.refl _)) (fun (b52 : (List (D × D))) (d53 : D) => (eg_n2 3 4 nd hc)) (fun (_u7 : Unit) (b52 : (List (D × D))) (d53 : D) (g54 : D × D) => (es_S [.rd (.list a.1), .v a.2, .ow none (.dict b52), .v g54.1, .v g54.2] (es_ifx (ε := (Option (List D))) (KE := (k_cached_behind pa)) (fun o74 => (Sum.inr (Ex.ret o74))) (et_cmpP hu (et_din hu (ev_v 4) (fun (a55 : D) => (ev_al 2))).2 (fun (a57 : Bool) => (ev_cmpP hu (ev_v 3) (fun (a58 : D) => (ev_gstr h_LOAD))))) (fun (a61 : Bool) => (es_S [.rd (.list a.1), .v a.2, .ow none (.dict b52), .v g54.1, .v g54.2] (es_retW (Sr := fun a62 => [.un, .un, .un, .un, .un]) (fun a62 => (none : Option (List D))) (ev_optN ev_non) (fun a62 => (WL.cons (.un _) (.cons (.un _) (.cons (.un _) (.cons (.un _) (.cons (.un _) .nil))))))))) (fun (a61 : Bool) => (es_S [.rd (.list a.1), .v a.2, .ow none (.dict b52), .v g54.1, .v g54.2] (es_ifl (et_cmpP hu (ev_v 3) (fun (a63 : D) => (ev_gstr h_LOAD))) (fun (a65 : Bool) => (es_S [.rd (.list a.1), .v a.2, .ow none (.dict b52), .v g54.1, .v g54.2] (es_dputR 2 (fun _ _ => none) (fun (a66 : D) (a67 : D) => b52) (fun (a66 : D) => a66) (fun (a66 : D) (a67 : D) => a67) hu ev_bl (fun (a66 : D) => (ev_v 4)) (fun (a66 : D) (a67 : D) (r68 : List (D × D)) => (es_S [.rd (.list a.1), .v a.2, .ow none (.dict r68), .v g54.1, .v g54.2] (es_end (Sum.inl r68) (WL.cons (.rfl _) (.cons (.rfl _) (.cons (.rfl _) (.cons (.un _) (.cons (.un _) .nil))))))))))) (fun (a65 : Bool) => (es_S [.rd (.list a.1), .v a.2, .ow none (.dict b52), .v g54.1, .v g54.2] (es_ifl (et_cmpP hu (ev_v 3) (fun (a69 : D) => (ev_gstr h_EVICT_logs))) (fun (a71 : Bool) => (es_S [.rd (.list a.1), .v a.2, .ow none (.dict b52), .v g54.1, .v g54.2] (es_ddelR 2 (fun _ => none) (fun (a72 : D) => b52) (fun (a72 : D) => a72) (ev_v 4) (fun (a72 : D) (r73 : List (D × D)) => (es_S [.rd (.list a.1), .v a.2, .ow none (.dict r73), .v g54.1, .v g54.2] (es_end (Sum.inl r73) (WL.cons (.rfl _) (.cons (.rfl _) (.cons (.rfl _) (.cons (.un _) (.cons (.un _) .nil))))))))))) (fun (a71 : Bool) => (es_S [.rd (.list a.1), .v a.2, .ow none (.dict b52), .v g54.1, .v g54.2] (es_end (Sum.inl b52) (WL.cons (.rfl _) (.cons (.rfl _) (.cons (.rfl _) (.cons (.un _) (.cons (.un _) .nil))))))))))))))))) (fun (b52 : (List (D × D))) => (es_retW (Sr := fun (r77 : (List D)) => [.un, .un, .un, .un, .un]) (fun (r77 : (List D)) => (some r77)) (ev_optI (fun (r77 : (List D)) => r77) (ev_n1 (γ := (List D)) (op := opSorted) (fun (r77 : (List D)) => [.rd (.list a.1), .v a.2, .ow none (.dict b52), .un, .un]) (fun (r77 : (List D)) => .ow none (.list r77)) (fun (_u75 : Unit) (d76 : List D) => d76) (fun (_u75 : Unit) => (D.dict b52)) (sorted_ok hc) opSorted_ne T.b_sorted (ev_al 2))) (fun (r77 : (List D)) => (WL.cons (.un _) (.cons (.un _) (.cons (.un _) (.cons (.rfl _) (.cons (.rfl _) .nil))))))))))) (hs := by exact sw_trueD rfl rfl rfl rfl))
/-! ### is_log -/
def k_is_log (pa : Nat → Addr) : D → Out := fun b => .rt [.un, .un] (.v b)
abbrev sp_is_log (K : PySem.W.Frag) (mg : Str → Option Value) : Sp := spF K mg 1 (fun a : (List D) => [.rd (.list a)]) [] m_is_log (fun b : D => [.un]) (fun b => .v b)
theorem sc_is_log : FnScope ["value", "line"] ["value"] (defScope (topS 13)) := ⟨rfl, rfl, rfl, by decide +kernel, rfl, by decide +kernel, by decide +kernel⟩
theorem w_is_log {P : Program} {w : World} {K : PySem.W.Frag} {mg : Str → Option Value} {base : Heap} (T : Tx K mg) {dv_cached_behind_1 : List V} (d_cached_behind_1 : DefD P w K mg base 1 "cached_behind" 2 dv_cached_behind_1 (sp_cached_behind K mg)) (hds_cached_behind_1 : ∀ F, RpL K F dv_cached_behind_1 [(D.tup [])]) (d_is_line : DefD P w K mg base 2 "is_line" 1 [] (sp_is_line K mg)) {f : Addr} {fd : FuncData} (F : FnX K "is_log" "is_log" (topS 13) f fd) :
    FnG P w K mg base 3 f fd ["value"] (sp_is_log K mg) := by
  refine fn_mir (K0 := k_is_log) (Sr := fun pa b => [.un, .un]) F sc_is_log 1 rfl ?_ (fun _ _ => .inl rfl) (SrL.all fun a pa b => (.un .nil)) (fun _ => rfl) (fun _ _ => Nat.le_of_ble_eq_true rfl) (fun _ => rfl)
  intro X a pa w0 hK hmg hN hc hgd hr hX tk hw
  obtain ⟨cdv, A, outer, s, H, E, rfl⟩ := hX
  obtain ⟨W0, S0'⟩ := w0
  cases hw
  have hu := huG hr
  have nd := sc_is_log.nd
  obtain ⟨t_MOST_LINES, h_MOST_LINES⟩ := T.g_MOST_LINES
  exact es_S [.rd (.list a), .un] (es_ifx (ε := D) (KE := (k_is_log pa)) (fun o28 => o28) (et_w (ew_orP (et_notP (et_valP (ev_isi (T := "list") (d1 := fun (_u1 : Unit) => (D.list a)) T.b_isinstance T.b_list (ev_al 0)))) (ew_orP (et_cmpP hu (ev_f1 (op := opLen) len_ok len_ne T.b_len (ev_al 0)) (fun (a6 : D) => (ev_gint h_MOST_LINES))) (ew_or1 (et_notP (et_valP (ev_f1 (op := opAll) (all_ok hc) all_ne T.b_all (ev_k (ek_compM [("line", 1)] hc nd (ei_list (fun (_u14 : Unit) => a) (ev_al 0)) (fun _ _ _ _ _ (d9 : D) => (eg_name 1 (by exact nd))) (fun _ _ _ _ _ (d9 : D) _ (_u14 : Unit) _ => (ev_cd (γ := D) (k := 2) (αc := D) (βc := D) (fun (r13 : D) => [.rd (.list a), .v d9]) (fun (r13 : D) => .v r13) (fun (a11 : D) => a11) (fun (a11 : D) (b12 : D) => b12) [] d_is_line (by exact hgd) (by exact hr.mono (by decide)) takesW (fun _ => .nil) (ea_one (ev_v 1)) (fun (a11 : D) => (.cons (.v _) .nil))))))))))))) (fun (a19 : Bool) => (es_S [.rd (.list a), .un] (es_retW (Sr := fun (a20 : D) => [.un, .un]) (fun (a20 : D) => a20) ev_bl (fun (a20 : D) => (WL.cons (.un _) (.cons (.rfl _) .nil)))))) (fun (a19 : Bool) => (es_S [.rd (.list a), .un] (es_retW (Sr := fun (a27 : D) => [.un, .un]) (fun (a27 : D) => a27) (ev_blP (ev_cmpP hu (ev_optF (fun (r24 : (Option (List D))) => r24) (ev_cd (γ := (Option (List D))) (k := 1) (αc := (List D) × D) (βc := (Option (List D))) (fun (r24 : (Option (List D))) => [.rd (.list a), .un]) (fun (r24 : (Option (List D))) => optS r24) (fun (_u22 : Unit) => (a, (D.tup []))) (fun (_u22 : Unit) (b23 : Option (List D)) => b23) [(D.tup [])] d_cached_behind_1 hgd (hr.mono (by decide)) tk hds_cached_behind_1 (ea_one (ev_al 0)) (fun (_u22 : Unit) => (.cons (.ar _ _ rfl) (.cons (.v _) .nil))) (hRc := fun _ => optS_c _))) (fun (r24 : (Option (List D))) => ev_non))) (fun (a27 : D) => (WL.cons (.un _) (.cons (.rfl _) .nil)))))))
/-! ### require_log -/
def k_require_log (pa : Nat → Addr) : Unit → Out := fun b => .nx [.un]
abbrev sp_require_log (K : PySem.W.Frag) (mg : Str → Option Value) : Sp := spF K mg 1 (fun a : (List D) => [.rd (.list a)]) [] m_require_log (fun b : Unit => [.un]) (fun b => .v .non)
theorem sc_require_log : FnScope ["log"] ["log"] (defScope (topS 14)) := ⟨rfl, rfl, rfl, by decide +kernel, rfl, by decide +kernel, by decide +kernel⟩
theorem w_require_log {P : Program} {w : World} {K : PySem.W.Frag} {mg : Str → Option Value} {base : Heap} (T : Tx K mg) (d_is_log : DefD P w K mg base 3 "is_log" 1 [] (sp_is_log K mg)) {f : Addr} {fd : FuncData} (F : FnX K "require_log" "require_log" (topS 14) f fd) :
    FnG P w K mg base 4 f fd ["log"] (sp_require_log K mg) := by
  refine fn_mir (K0 := k_require_log) (Sr := fun pa b => [.un]) F sc_require_log 0 rfl ?_ (fun _ _ => .inr ⟨rfl, rfl⟩) (SrL.all fun a pa b => (.un .nil)) (fun _ => rfl) (fun _ _ => Nat.le_of_ble_eq_true rfl) (fun _ => rfl)
  intro X a pa w0 hK hmg hN hc hgd hr hX tk hw
  obtain ⟨cdv, A, outer, s, H, E, rfl⟩ := hX
  obtain ⟨W0, S0'⟩ := w0
  cases hw
  have hu := huG hr
  have nd := sc_require_log.nd
  exact es_S [.rd (.list a)] (es_ifl (et_notP (et_valP (ev_cd (γ := D) (k := 3) (αc := (List D)) (βc := D) (fun (r4 : D) => [.rd (.list a)]) (fun (r4 : D) => .v r4) (fun (_u2 : Unit) => a) (fun (_u2 : Unit) (b3 : D) => b3) [] d_is_log hgd (hr.mono (by decide)) tk (fun _ => .nil) (ea_one (ev_al 0)) (fun (_u2 : Unit) => (.cons (.ar _ _ rfl) .nil))))) (fun (a6 : Bool) => (es_S [.rd (.list a)] (es_raise hc tk T.x_InvalidLog ev_str))) (fun (a6 : Bool) => (es_S [.rd (.list a)] (es_end (S' := [.un]) () (WL.cons (.un _) .nil)))))
/-! ### after_line -/
def k_after_line (pa : Nat → Addr) : (List D) → Out := fun b => .rt [.un, .un, .un, .un, .un] (.ow none (.list b))
abbrev sp_after_line (K : PySem.W.Frag) (mg : Str → Option Value) : Sp := spF K mg 3 (fun a : (List D) × D × D => [.rd (.list a.1), .v a.2.1, .v a.2.2]) [] m_after_line (fun b : (List D) => [.un, .un, .un]) (fun b => .ow none (.list b))
theorem sc_after_line : FnScope ["order", "word", "name", "rest", "other"] ["order", "word", "name"] (defScope (topS 18)) := ⟨rfl, rfl, rfl, by decide +kernel, rfl, by decide +kernel, by decide +kernel⟩
theorem w_after_line {P : Program} {w : World} {K : PySem.W.Frag} {mg : Str → Option Value} {base : Heap} (T : Tx K mg) {f : Addr} {fd : FuncData} (F : FnX K "after_line" "after_line" (topS 18) f fd) :
    FnG P w K mg base 1 f fd ["order", "word", "name"] (sp_after_line K mg) := by
  refine fn_mir (K0 := k_after_line) (Sr := fun pa b => [.un, .un, .un, .un, .un]) F sc_after_line 2 rfl ?_ (fun _ _ => .inl rfl) (SrL.all fun a pa b => (.un (.un (.un .nil)))) (fun _ => rfl) (fun _ _ => Nat.le_of_ble_eq_true rfl) (fun _ => rfl)
  intro X a pa w0 hK hmg hN hc hgd hr hX tk hw
  obtain ⟨cdv, A, outer, s, H, E, rfl⟩ := hX
  obtain ⟨W0, S0'⟩ := w0
  cases hw
  have hu := huG hr
  have nd := sc_after_line.nd
  obtain ⟨t_EVICT_histories, h_EVICT_histories⟩ := T.g_EVICT_histories
  exact es_S [.rd (.list a.1), .v a.2.1, .v a.2.2, .un, .un] (es_k 3 (ek_compO [("other", 4)] hc nd (ei_list (fun (_u6 : Unit) => a.1) (ev_al 0)) (fun _ _ _ _ _ (d1 : D) => (eg_name 4 (by exact nd))) (fun _ _ _ _ _ (d1 : D) _ (_u6 : Unit) _ => ets_one (et_cmpP (by exact hu) (ev_v 4) (fun (a2 : D) => (ev_v 2)))) (fun _ _ _ _ _ (d1 : D) _ (_u6 : Unit) _ => (ev_v 4))) (fun (a7 : List D) => (es_S [.rd (.list a.1), .v a.2.1, .v a.2.2, .ow none (.list a7), .un] (es_retW (Sr := fun (r18 : (List D)) => [.un, .un, .un, .un, .un]) (fun (r18 : (List D)) => r18) (ev_if (δ := (List D)) (fun (r18 : (List D)) => [.rd (.list a.1), .v a.2.1, .v a.2.2, .un, .un]) (fun (r18 : (List D)) => .ow none (.list r18)) (fun (a10 : Bool) (a11 : Unit) => a7) (fun (a10 : Bool) (r17 : (List D)) => r17) (et_cmpP hu (ev_v 1) (fun (a8 : D) => (ev_gstr h_EVICT_histories))) (fun (a10 : Bool) => (ev_mv 3)) (fun (a10 : Bool) => (ev_wk (ev_cat (γ := (List D)) (fun (r17 : (List D)) => [.rd (.list a.1), .v a.2.1, .v a.2.2, .ow none (.list a7), .un]) (fun (r17 : (List D)) => .ow none (.list r17)) (fun (_u12 : Unit) (r15 : (List D)) (d16 : List D) => d16) (fun (_u12 : Unit) (r15 : (List D)) => a7) (fun (_u12 : Unit) (r15 : (List D)) => r15) (ev_al 3) (fun (_u12 : Unit) => (ev_lst (γ := (List D)) (fun (r15 : (List D)) => [.rd (.list a.1), .v a.2.1, .v a.2.2, .ow none (.list a7), .un]) (fun (r15 : (List D)) => .ow none (.list r15)) (fun (a13 : D) (l14 : List D) => l14) (fun (a13 : D) => [a13]) (ea_one (ev_v 2))))) (fun (r17 : (List D)) => (WL.cons (.rfl _) (.cons (.rfl _) (.cons (.rfl _) (.cons (.un _) (.cons (.rfl _) .nil))))))))) (fun (r18 : (List D)) => (WL.cons (.un _) (.cons (.un _) (.cons (.un _) (.cons (.rfl _) (.cons (.rfl _) .nil))))))))))
/-! ### first_wrong_in -/
def k_first_wrong_in (pa : Nat → Addr) : D → Out := fun b => .rt [.un, .un, .un, .un, .un] (.v b)
abbrev sp_first_wrong_in (K : PySem.W.Frag) (mg : Str → Option Value) : Sp := spF K mg 1 (fun a : (List D) => [.rd (.list a)]) [] m_first_wrong_in (fun b : D => [.un]) (fun b => .v b)
theorem sc_first_wrong_in : FnScope ["lines", "order", "position", "word", "name"] ["lines"] (defScope (topS 17)) := ⟨rfl, rfl, rfl, by decide +kernel, rfl, by decide +kernel, by decide +kernel⟩
theorem w_first_wrong_in {P : Program} {w : World} {K : PySem.W.Frag} {mg : Str → Option Value} {base : Heap} (T : Tx K mg) (d_after_line : DefD P w K mg base 1 "after_line" 3 [] (sp_after_line K mg)) {f : Addr} {fd : FuncData} (F : FnX K "first_wrong_in" "first_wrong_in" (topS 17) f fd) :
    FnG P w K mg base 2 f fd ["lines"] (sp_first_wrong_in K mg) := by
  refine fn_mir (K0 := k_first_wrong_in) (Sr := fun pa b => [.un, .un, .un, .un, .un]) F sc_first_wrong_in 4 rfl ?_ (fun _ _ => .inl rfl) (SrL.all fun a pa b => (.un .nil)) (fun _ => rfl) (fun _ _ => Nat.le_of_ble_eq_true rfl) (fun _ => rfl)
  intro X a pa w0 hK hmg hN hc hgd hr hX tk hw
  obtain ⟨cdv, A, outer, s, H, E, rfl⟩ := hX
  obtain ⟨W0, S0'⟩ := w0
  cases hw
  have hu := huG hr
  have nd := sc_first_wrong_in.nd
  obtain ⟨t_EVICT_histories, h_EVICT_histories⟩ := T.g_EVICT_histories
  exact es_S [.rd (.list a), .un, .un, .un, .un] (es_asg 1 (ev_lst (γ := List D) (fun _ => [.rd (.list a), .un, .un, .un, .un]) (fun l => .ow none (.list l)) (fun _ l => l) (fun _ => []) ea_nil) (fun (a1 : List D) => (es_S [.rd (.list a), .ow none (.list a1), .un, .un, .un] (es_forGE (KE := (k_first_wrong_in pa)) (fun (b49 : (List D)) => [.rd (.list a), .ow none (.list b49), .un, .un, .un]) (fun (_u2 : Unit) => a1) (fun (o74 : D) => o74) (passes_of rfl) hc (ei_enum (fun (_u2 : Unit) => enumD a) (fun (_u2 : Unit) => a) T.b_enumerate (ev_al 0)) (fun (_u2 : Unit) => (WL.refl _)) (fun (b49 : (List D)) (d50 : D) => (eg_n12 2 3 4 nd hc)) (fun (_u2 : Unit) (b49 : (List D)) (d50 : D) (g51 : D × D × D) => (es_S [.rd (.list a), .ow none (.list b49), .v g51.1, .v g51.2.1, .v g51.2.2] (es_ifx (ε := D) (KE := (k_first_wrong_in pa)) (fun o72 => (Sum.inr (Ex.ret o72))) (et_w (ew_andP (et_cmpP hu (ev_v 3) (fun (a52 : D) => (ev_gstr h_EVICT_histories))) (ew_and1 (et_cmpP hu (ev_ixP (ev_al 1) (fun (_u55 : Unit) => ev_int)) (fun (a57 : D) => (ev_v 4)))))) (fun (a60 : Bool) => (es_S [.rd (.list a), .ow none (.list b49), .v g51.1, .v g51.2.1, .v g51.2.2] (es_retW (Sr := fun (a61 : D) => [.un, .un, .un, .un, .un]) (fun (a61 : D) => a61) (ev_v 2) (fun (a61 : D) => (WL.cons (.un _) (.cons (.un _) (.cons (.un _) (.cons (.un _) (.cons (.un _) .nil))))))))) (fun (a60 : Bool) => (es_S [.rd (.list a), .ow none (.list b49), .v g51.1, .v g51.2.1, .v g51.2.2] (es_asg 1 (ev_cd (γ := (List D)) (k := 1) (αc := (List D) × D × D) (βc := (List D)) (fun (r71 : (List D)) => [.rd (.list a), .ow none (.list b49), .v g51.1, .v g51.2.1, .v g51.2.2]) (fun (r71 : (List D)) => .ow none (.list r71)) (fun (q69 : Unit × D × D) => (b49, q69.2.1, q69.2.2)) (fun (q69 : Unit × D × D) (b70 : List D) => b70) [] d_after_line hgd (hr.mono (by decide)) tk (fun _ => .nil) (ea_cons (Rs := fun (q69 : Unit × D × D) => [.al 1, .v q69.2.1, .v q69.2.2]) (fun (q69 : Unit × D × D) => [.rd (.list a), .ow none (.list b49), .v g51.1, .v g51.2.1, .v g51.2.2]) (fun (_u65 : Unit) (q68 : D × D) => (_u65, q68)) (ev_al 1) (fun (_u65 : Unit) => (ea_cons (Rs := fun (q68 : D × D) => [.v q68.1, .v q68.2]) (fun (q68 : D × D) => [.rd (.list a), .ow none (.list b49), .v g51.1, .v g51.2.1, .v g51.2.2]) (fun (a66 : D) (a67 : D) => (a66, a67)) (ev_v 3) (fun (a66 : D) => (ea_one (ev_v 4)))))) (fun (q69 : Unit × D × D) => (.cons (.ar _ _ rfl) (.cons (.v _) (.cons (.v _) .nil))))) (fun (r71 : (List D)) => (es_S [.rd (.list a), .ow none (.list r71), .v g51.1, .v g51.2.1, .v g51.2.2] (es_end (Sum.inl r71) (WL.cons (.rfl _) (.cons (.rfl _) (.cons (.un _) (.cons (.un _) (.cons (.un _) .nil)))))))) nd)))))) (fun (b49 : (List D)) => (es_retW (Sr := fun (a73 : D) => [.un, .un, .un, .un, .un]) (fun (a73 : D) => a73) ev_non (fun (a73 : D) => (WL.cons (.un _) (.cons (.un _) (.cons (.rfl _) (.cons (.rfl _) (.cons (.rfl _) .nil))))))))))) nd)
/-! ### first_wrong -/
def k_first_wrong (pa : Nat → Addr) : D → Out := fun b => .rt [.un] (.v b)
abbrev sp_first_wrong (K : PySem.W.Frag) (mg : Str → Option Value) : Sp := spF K mg 1 (fun a : (List D) => [.rd (.list a)]) [] m_first_wrong (fun b : D => [.un]) (fun b => .v b)
theorem sc_first_wrong : FnScope ["log"] ["log"] (defScope (topS 19)) := ⟨rfl, rfl, rfl, by decide +kernel, rfl, by decide +kernel, by decide +kernel⟩
theorem w_first_wrong {P : Program} {w : World} {K : PySem.W.Frag} {mg : Str → Option Value} {base : Heap} (T : Tx K mg) (d_first_wrong_in : DefD P w K mg base 2 "first_wrong_in" 1 [] (sp_first_wrong_in K mg)) (d_require_log : DefD P w K mg base 4 "require_log" 1 [] (sp_require_log K mg)) {f : Addr} {fd : FuncData} (F : FnX K "first_wrong" "first_wrong" (topS 19) f fd) :
    FnG P w K mg base 5 f fd ["log"] (sp_first_wrong K mg) := by
  refine fn_mir (K0 := k_first_wrong) (Sr := fun pa b => [.un]) F sc_first_wrong 0 rfl ?_ (fun _ _ => .inl rfl) (SrL.all fun a pa b => (.un .nil)) (fun _ => rfl) (fun _ _ => Nat.le_of_ble_eq_true rfl) (fun _ => rfl)
  intro X a pa w0 hK hmg hN hc hgd hr hX tk hw
  obtain ⟨cdv, A, outer, s, H, E, rfl⟩ := hX
  obtain ⟨W0, S0'⟩ := w0
  cases hw
  have hu := huG hr
  have nd := sc_first_wrong.nd
  exact es_S [.rd (.list a)] (es_expr (ev_cd (γ := Unit) (k := 4) (αc := (List D)) (βc := Unit) (fun (r4 : Unit) => [.rd (.list a)]) (fun (r4 : Unit) => .v D.non) (fun (_u2 : Unit) => a) (fun (_u2 : Unit) (b3 : Unit) => ()) [] d_require_log hgd (hr.mono (by decide)) tk (fun _ => .nil) (ea_one (ev_al 0)) (fun (_u2 : Unit) => (.cons (.ar _ _ rfl) .nil))) (fun (r4 : Unit) => (es_S [.rd (.list a)] (es_retW (Sr := fun (r8 : D) => [.un]) (fun (r8 : D) => r8) (ev_cd (γ := D) (k := 2) (αc := (List D)) (βc := D) (fun (r8 : D) => [.rd (.list a)]) (fun (r8 : D) => .v r8) (fun (_u6 : Unit) => a) (fun (_u6 : Unit) (b7 : D) => b7) [] d_first_wrong_in hgd (hr.mono (by decide)) tk (fun _ => .nil) (ea_one (ev_al 0)) (fun (_u6 : Unit) => (.cons (.ar _ _ rfl) .nil))) (fun (r8 : D) => (WL.cons (.un _) .nil))))))
/-! ### _law_right -/
def k__law_right (pa : Nat → Addr) : D → Out := fun b => .rt [.un, .un, .un] (.v b)
abbrev sp__law_right (K : PySem.W.Frag) (mg : Str → Option Value) : Sp := spF K mg 1 (fun a : (List D) => [.rd (.list a)]) [] m_law_right_v3 (fun b : D => [.un]) (fun b => .v b)
theorem sc__law_right : FnScope ["log", "kept", "due"] ["log"] (defScope (topS 28)) := ⟨rfl, rfl, rfl, by decide +kernel, rfl, by decide +kernel, by decide +kernel⟩
theorem w__law_right {P : Program} {w : World} {K : PySem.W.Frag} {mg : Str → Option Value} {base : Heap} (T : Tx K mg) (d__law_first_wrong : DefD P w K mg base 1 "_law_first_wrong" 1 [] (sp__law_first_wrong K mg)) (d_first_wrong : DefD P w K mg base 5 "first_wrong" 1 [] (sp_first_wrong K mg)) {f : Addr} {fd : FuncData} (F : FnX K "_law_right" "_law_right" (topS 28) f fd) :
    FnG P w K mg base 6 f fd ["log"] (sp__law_right K mg) := by
  refine fn_mir (K0 := k__law_right) (Sr := fun pa b => [.un, .un, .un]) F sc__law_right 2 rfl ?_ (fun _ _ => .inl rfl) (SrL.all fun a pa b => (.un .nil)) (fun _ => rfl) (fun _ _ => Nat.le_of_ble_eq_true rfl) (fun _ => rfl)
  intro X a pa w0 hK hmg hN hc hgd hr hX tk hw
  obtain ⟨cdv, A, outer, s, H, E, rfl⟩ := hX
  obtain ⟨W0, S0'⟩ := w0
  cases hw
  have hu := huG hr
  have nd := sc__law_right.nd
  exact es_S [.rd (.list a), .un, .un] (es_par 1 2 (ev_f1 (op := opRepr) (repr_ok hgd hu) repr_ne T.b_repr (ev_al 0)) (fun (a2 : D) => (ev_cd (γ := D) (k := 1) (αc := (List D)) (βc := D) (fun (r6 : D) => [.rd (.list a), .un, .un]) (fun (r6 : D) => .v r6) (fun (_u4 : Unit) => a) (fun (_u4 : Unit) (b5 : D) => b5) [] d__law_first_wrong hgd (hr.mono (by decide)) tk (fun _ => .nil) (ea_one (ev_al 0)) (fun (_u4 : Unit) => (.cons (.ar _ _ rfl) .nil)))) (fun (a2 : D) (r6 : D) => (es_S [.rd (.list a), .v a2, .v r6] (es_retW (Sr := fun (a29 : D) => [.un, .un, .un]) (fun (a29 : D) => a29) (ev_blP (ev_band (ev_cmpP hu (ev_reprL (γ := D) (fun (r17 : D) => [.rd (.list a), .v a2, .v r6]) (fun (r17 : D) => .v r17) (fun (q15 : D × D) (d16 : D) => d16) (fun (q15 : D × D) => [q15.1, q15.2]) hgd hu T.b_repr (ea_cons (Rs := fun (q15 : D × D) => [.v q15.1, .v q15.2]) (fun (q15 : D × D) => [.rd (.list a), .v a2, .v r6]) (fun (r10 : D) (r14 : D) => (r10, r14)) (ev_cd (γ := D) (k := 5) (αc := (List D)) (βc := D) (fun (r10 : D) => [.rd (.list a), .v a2, .v r6]) (fun (r10 : D) => .v r10) (fun (_u8 : Unit) => a) (fun (_u8 : Unit) (b9 : D) => b9) [] d_first_wrong hgd (hr.mono (by decide)) tk (fun _ => .nil) (ea_one (ev_al 0)) (fun (_u8 : Unit) => (.cons (.ar _ _ rfl) .nil))) (fun (r10 : D) => (ea_one (ev_cd (γ := D) (k := 5) (αc := (List D)) (βc := D) (fun (r14 : D) => [.rd (.list a), .v a2, .v r6]) (fun (r14 : D) => .v r14) (fun (_u12 : Unit) => a) (fun (_u12 : Unit) (b13 : D) => b13) [] d_first_wrong hgd (hr.mono (by decide)) tk (fun _ => .nil) (ea_one (ev_al 0)) (fun (_u12 : Unit) => (.cons (.ar _ _ rfl) .nil)))))) (fun _ => (.cons rfl (.cons rfl .nil)))) (fun (r17 : D) => (ev_reprL (γ := D) (fun (r22 : D) => [.rd (.list a), .v a2, .v r6]) (fun (r22 : D) => .v r22) (fun (q20 : D × D) (d21 : D) => d21) (fun (q20 : D × D) => [q20.1, q20.2]) hgd hu T.b_repr (ea_cons (Rs := fun (q20 : D × D) => [.v q20.1, .v q20.2]) (fun (q20 : D × D) => [.rd (.list a), .v a2, .v r6]) (fun (a18 : D) (a19 : D) => (a18, a19)) (ev_v 2) (fun (a18 : D) => (ea_one (ev_v 2)))) (fun _ => (.cons rfl (.cons rfl .nil)))))) (ev_band1 (ev_cmpP hu (ev_f1 (op := opRepr) (repr_ok hgd hu) repr_ne T.b_repr (ev_al 0)) (fun (a25 : D) => (ev_v 1)))))) (fun (a29 : D) => (WL.cons (.un _) (.cons (.un _) (.cons (.un _) .nil))))))) nd hc (by decide))
/-! ### law -/
def k_law (pa : Nat → Addr) : D → Out := fun b => .rt [.un, .un, .un, .un, .un, .un, .un, .un] (.v b)
abbrev sp_law (K : PySem.W.Frag) (mg : Str → Option Value) : Sp := spF K mg 1 (fun a : (List D) => [.sc a]) [] m_law_v3 (fun b : D => [.un]) (fun b => .v b)
theorem sc_law : FnScope ["script", "at", "pool", "turn", "log", "history", "word", "name"] ["script"] (defScope (topS 29)) := ⟨rfl, rfl, rfl, by decide +kernel, rfl, by decide +kernel, by decide +kernel⟩
theorem w_law {P : Program} {w : World} {K : PySem.W.Frag} {mg : Str → Option Value} {base : Heap} (T : Tx K mg) (d__law_draw : DefD P w K mg base 1 "_law_draw" 2 [] (sp__law_draw K mg)) (d__law_filled : DefD P w K mg base 3 "_law_filled" 2 [] (sp__law_filled K mg)) (d__law_log : DefD P w K mg base 3 "_law_log" 2 [] (sp__law_log K mg)) (d__law_pool : DefD P w K mg base 1 "_law_pool" 2 [] (sp__law_pool K mg)) (d__law_right : DefD P w K mg base 6 "_law_right" 1 [] (sp__law_right K mg)) (d_first_wrong : DefD P w K mg base 5 "first_wrong" 1 [] (sp_first_wrong K mg)) {f : Addr} {fd : FuncData} (F : FnX K "law" "law" (topS 29) f fd) :
    FnG P w K mg base 7 f fd ["script"] (sp_law K mg) := by
  refine fn_mir (K0 := k_law) (Sr := fun pa b => [.un, .un, .un, .un, .un, .un, .un, .un]) F sc_law 7 rfl ?_ (fun _ _ => .inl rfl) (SrL.all fun a pa b => (.un .nil)) (fun _ => rfl) (fun _ _ => Nat.le_of_ble_eq_true rfl) (fun _ => rfl)
  intro X a pa w0 hK hmg hN hc hgd hr hX tk hw
  obtain ⟨cdv, A, outer, s, H, E, rfl⟩ := hX
  obtain ⟨W0, S0'⟩ := w0
  cases hw
  have hu := huG hr
  have nd := sc_law.nd
  exact es_S [.sc a, .un, .un, .un, .un, .un, .un, .un] (es_forE (KE := (k_law pa)) 1 (fun (b689 : Unit) => [.sc a, .un, .un, .un, .un, .un, .un, .un]) (fun (r8 : Int) => ()) (fun (o1079 : D) => o1079) nd (passes_of rfl) hc (ei_range1 (γ := Int) (fun (r8 : Int) => [.sc a, .un, .un, .un, .un, .un, .un, .un]) (fun (a6 : D) i7 => i7) (fun (r8 : Int) => rngD 0 r8) (fun (a6 : D) => a6) T.b_range (ev_f2 (op := opMax) (max_ok hc) max_ne T.b_max ev_int (fun (a1 : D) => (ev_f2 (op := opMin) (min_ok hc) min_ne T.b_min ev_int (fun (a2 : D) => (ev_lenS T.b_len (ev_al 0))))))) (fun (r8 : Int) => (WL.refl _)) (fun (r8 : Int) (b689 : Unit) (d690 : D) => (es_S [.sc a, .v d690, .un, .un, .un, .un, .un, .un] (es_asg 2 (ev_cd (γ := (List D)) (k := 1) (αc := (List D) × D) (βc := (List D)) (fun (r697 : (List D)) => [.sc a, .v d690, .un, .un, .un, .un, .un, .un]) (fun (r697 : (List D)) => .ow none (.list r697)) (fun (q695 : Unit × D) => (a, q695.2)) (fun (q695 : Unit × D) (b696 : List D) => b696) [] d__law_pool hgd (hr.mono (by decide)) tk (fun _ => .nil) (ea_cons (Rs := fun (q695 : Unit × D) => [.al 0, .v q695.2]) (fun (q695 : Unit × D) => [.sc a, .v d690, .un, .un, .un, .un, .un, .un]) (fun (_u693 : Unit) (a694 : D) => (_u693, a694)) (ev_al 0) (fun (_u693 : Unit) => (ea_one (ev_v 1)))) (fun (q695 : Unit × D) => (.cons (.asc _ _ rfl) (.cons (.v _) .nil)))) (fun (r697 : (List D)) => (es_S [.sc a, .v d690, .ow none (.list r697), .un, .un, .un, .un, .un] (es_forE (KE := (k_law pa)) 3 (fun (b917 : (List D)) => [.sc a, .v d690, .ow none (.list b917), .un, .un, .un, .un, .un]) (fun (r700 : Int) => r697) (fun (o1028 : D) => (Sum.inr (Ex.ret o1028))) nd (passes_of rfl) hc (ei_range1 (γ := Int) (fun (r700 : Int) => [.sc a, .v d690, .ow none (.list r697), .un, .un, .un, .un, .un]) (fun (a698 : D) i699 => i699) (fun (r700 : Int) => rngD 0 r700) (fun (a698 : D) => a698) T.b_range ev_int) (fun (r700 : Int) => (WL.refl _)) (fun (r700 : Int) (b917 : (List D)) (d918 : D) => (es_S [.sc a, .v d690, .ow none (.list b917), .v d918, .un, .un, .un, .un] (es_asg 4 (ev_cd (γ := (List D) × (List D)) (k := 3) (αc := (List D) × D) (βc := (List D) × (List D)) (fun (r951 : (List D) × (List D)) => [.sc a, .v d690, .ow none (.list r951.2), .v d918, .un, .un, .un, .un]) (fun (r951 : (List D) × (List D)) => .ow none (.list r951.1)) (fun (q949 : Unit × D × (List D)) => (q949.2.2, q949.2.1)) (fun (q949 : Unit × D × (List D)) (b950 : (List D) × (List D)) => (b950.1, b950.2)) [] d__law_log hgd (hr.mono (by decide)) tk (fun _ => .nil) (ea_cons (Rs := fun (q949 : Unit × D × (List D)) => [.al 2, .v q949.2.1]) (fun (q949 : Unit × D × (List D)) => [.sc a, .v d690, .ow none (.list q949.2.2), .v d918, .un, .un, .un, .un]) (fun (_u934 : Unit) (r948 : D × (List D)) => (_u934, r948)) (ev_al 2) (fun (_u934 : Unit) => (ea_one (ev_ix (γ := D × (List D)) (fun (r948 : D × (List D)) => [.sc a, .v d690, .ow none (.list r948.2), .v d918, .un, .un, .un, .un]) (fun (r948 : D × (List D)) => .v r948.1) (fun (r939 : (List D)) (r946 : D × (List D)) (d947 : D) => (d947, r946.2)) (fun (r939 : (List D)) (r946 : D × (List D)) => (D.list r939)) (fun (r939 : (List D)) (r946 : D × (List D)) => r946.1) (ev_lst (γ := (List D)) (fun (r939 : (List D)) => [.sc a, .v d690, .ow none (.list b917), .v d918, .un, .un, .un, .un]) (fun (r939 : (List D)) => .ow none (.list r939)) (fun (q937 : D × D) (l938 : List D) => l938) (fun (q937 : D × D) => [q937.1, q937.2]) (ea_cons (Rs := fun (q937 : D × D) => [.v q937.1, .v q937.2]) (fun (q937 : D × D) => [.sc a, .v d690, .ow none (.list b917), .v d918, .un, .un, .un, .un]) (fun (a935 : D) (a936 : D) => (a935, a936)) ev_int (fun (a935 : D) => (ea_one ev_int)))) (fun (r939 : (List D)) => (ev_cd (γ := D × (List D)) (k := 1) (αc := (List D) × D) (βc := D × (List D)) (fun (r946 : D × (List D)) => [.sc a, .v d690, .ow none (.list r946.2), .v d918, .un, .un, .un, .un]) (fun (r946 : D × (List D)) => .v r946.1) (fun (q944 : Unit × D) => (b917, q944.2)) (fun (q944 : Unit × D) (b945 : D × (List D)) => (b945.1, b945.2)) [] d__law_draw hgd (hr.mono (by decide)) tk (fun _ => .nil) (ea_cons (Rs := fun (q944 : Unit × D) => [.al 2, .v q944.2]) (fun (q944 : Unit × D) => [.sc a, .v d690, .ow none (.list b917), .v d918, .un, .un, .un, .un]) (fun (_u942 : Unit) (a943 : D) => (_u942, a943)) (ev_al 2) (fun (_u942 : Unit) => (ea_one ev_int))) (fun (q944 : Unit × D) => (.cons (.ai _ _ _ rfl) (.cons (.v _) .nil))))))))) (fun (q949 : Unit × D × (List D)) => (.cons (.ai _ _ _ rfl) (.cons (.v _) .nil)))) (fun (r951 : (List D) × (List D)) => (es_S [.sc a, .v d690, .ow none (.list r951.2), .v d918, .ow none (.list r951.1), .un, .un, .un] (es_asg 5 (ev_slL (δ := (List D) × (List D)) (o2 := fun (r958 : (List D) × (List D)) (_n959 : Unit) => none) (o3 := fun (r958 : (List D) × (List D)) (_n959 : Unit) (r962 : Int) => (some r962)) (fun (r964 : (List D) × (List D)) => [.sc a, .v d690, .ow none (.list r964.2), .v d918, .ow none (.list r951.1), .un, .un, .un]) (fun (r964 : (List D) × (List D)) => .ow none (.list r964.1)) (fun (r958 : (List D) × (List D)) (_n959 : Unit) (r962 : Int) (d963 : List D) => (d963, r958.2)) (fun (r958 : (List D) × (List D)) (_n959 : Unit) (r962 : Int) => r958.1) (ev_cd (γ := (List D) × (List D)) (k := 3) (αc := (List D) × (List D)) (βc := (List D) × (List D)) (fun (r958 : (List D) × (List D)) => [.sc a, .v d690, .ow none (.list r958.2), .v d918, .ow none (.list r951.1), .un, .un, .un]) (fun (r958 : (List D) × (List D)) => .ow none (.list r958.1)) (fun (q956 : Unit × Unit) => (r951.2, r951.1)) (fun (q956 : Unit × Unit) (b957 : (List D) × (List D)) => (b957.1, b957.2)) [] d__law_filled hgd (hr.mono (by decide)) tk (fun _ => .nil) (ea_cons (Rs := fun (q956 : Unit × Unit) => [.al 2, .al 4]) (fun (q956 : Unit × Unit) => [.sc a, .v d690, .ow none (.list r951.2), .v d918, .ow none (.list r951.1), .un, .un, .un]) (fun (_u954 : Unit) (_u955 : Unit) => (_u954, _u955)) (ev_al 2) (fun (_u954 : Unit) => (ea_one (ev_al 4)))) (fun (q956 : Unit × Unit) => (.cons (.ai _ _ _ rfl) (.cons (.ar _ _ rfl) .nil)))) (fun (r958 : (List D) × (List D)) => eo_none) (fun (r958 : (List D) × (List D)) (_n959 : Unit) => (eo_some (γ := Int) (fun (r962 : Int) => [.sc a, .v d690, .ow none (.list r958.2), .v d918, .ow none (.list r951.1), .un, .un, .un]) (fun (r962 : Int) => some r962) (fun (a960 : D) i961 => i961) (fun (a960 : D) => a960) ev_int))) (fun (r964 : (List D) × (List D)) => (es_S [.sc a, .v d690, .ow none (.list r964.2), .v d918, .ow none (.list r951.1), .ow none (.list r964.1), .un, .un] (es_ifx (ε := D) (KE := (k_law pa)) (fun o1027 => (Sum.inr (Ex.ret o1027))) (et_w (ew_orP (et_notP (et_valP (ev_cd (γ := D) (k := 6) (αc := (List D)) (βc := D) (fun (r968 : D) => [.sc a, .v d690, .ow none (.list r964.2), .v d918, .ow none (.list r951.1), .ow none (.list r964.1), .un, .un]) (fun (r968 : D) => .v r968) (fun (_u966 : Unit) => r951.1) (fun (_u966 : Unit) (b967 : D) => b967) [] d__law_right hgd (hr.mono (by decide)) tk (fun _ => .nil) (ea_one (ev_al 4)) (fun (_u966 : Unit) => (.cons (.ar _ _ rfl) .nil))))) (ew_orP (et_notP (et_valP (ev_cd (γ := D) (k := 6) (αc := (List D)) (βc := D) (fun (r974 : D) => [.sc a, .v d690, .ow none (.list r964.2), .v d918, .ow none (.list r951.1), .ow none (.list r964.1), .un, .un]) (fun (r974 : D) => .v r974) (fun (_u972 : Unit) => r964.1) (fun (_u972 : Unit) (b973 : D) => b973) [] d__law_right hgd (hr.mono (by decide)) tk (fun _ => .nil) (ea_one (ev_al 5)) (fun (_u972 : Unit) => (.cons (.ar _ _ rfl) .nil))))) (ew_or1 (et_cmpP hu (ev_cd (γ := D) (k := 5) (αc := (List D)) (βc := D) (fun (r980 : D) => [.sc a, .v d690, .ow none (.list r964.2), .v d918, .ow none (.list r951.1), .ow none (.list r964.1), .un, .un]) (fun (r980 : D) => .v r980) (fun (_u978 : Unit) => r964.1) (fun (_u978 : Unit) (b979 : D) => b979) [] d_first_wrong hgd (hr.mono (by decide)) tk (fun _ => .nil) (ea_one (ev_al 5)) (fun (_u978 : Unit) => (.cons (.ar _ _ rfl) .nil))) (fun (r980 : D) => ev_non)))))) (fun (a983 : Bool) => (es_S [.sc a, .v d690, .ow none (.list r964.2), .v d918, .ow none (.list r951.1), .ow none (.list r964.1), .un, .un] (es_retW (Sr := fun (a984 : D) => [.un, .un, .un, .un, .un, .un, .un, .un]) (fun (a984 : D) => a984) ev_bl (fun (a984 : D) => (WL.cons (.un _) (.cons (.un _) (.cons (.un _) (.cons (.un _) (.cons (.un _) (.cons (.un _) (.cons (.rfl _) (.cons (.rfl _) .nil)))))))))))) (fun (a983 : Bool) => (es_S [.sc a, .v d690, .ow none (.list r964.2), .v d918, .ow none (.list r951.1), .ow none (.list r964.1), .un, .un] (es_ifl (et_cmpP hu (ev_al 4) (fun (_u985 : Unit) => (ev_lst (γ := List D) (fun _ => [.sc a, .v d690, .ow none (.list r964.2), .v d918, .ow none (.list r951.1), .ow none (.list r964.1), .un, .un]) (fun l => .ow none (.list l)) (fun _ l => l) (fun _ => []) ea_nil))) (fun (a987 : Bool) => (es_S [.sc a, .v d690, .ow none (.list r964.2), .v d918, .ow none (.list r951.1), .ow none (.list r964.1), .un, .un] (es_asgG (fun (r989 : D × (List D)) => r989.1) (ev_m0 (γ := D × (List D)) (op := opPop) PySem.F.slot_list_pop PySem.F.type_list_pop pop_ok pop_ne 4 (fun (r989 : D × (List D)) => [.sc a, .v d690, .ow none (.list r964.2), .v d918, .ow none (.list r989.2), .ow none (.list r964.1), .un, .un]) (fun (r989 : D × (List D)) => .v r989.1) (fun d988 => (d988.1, d988.2))) (fun (r989 : D × (List D)) => (eg_n2 6 7 nd hc)) (fun (r989 : D × (List D)) (g990 : D × D) => (es_S [.sc a, .v d690, .ow none (.list r964.2), .v d918, .ow none (.list r989.2), .ow none (.list r964.1), .v g990.1, .v g990.2] (es_ifx (ε := D) (KE := (k_law pa)) (fun o1026 => (Sum.inr (Ex.ret o1026))) (et_notP (et_valP (ev_cd (γ := D) (k := 6) (αc := (List D)) (βc := D) (fun (r994 : D) => [.sc a, .v d690, .ow none (.list r964.2), .v d918, .ow none (.list r989.2), .ow none (.list r964.1), .v g990.1, .v g990.2]) (fun (r994 : D) => .v r994) (fun (_u992 : Unit) => r989.2) (fun (_u992 : Unit) (b993 : D) => b993) [] d__law_right hgd (hr.mono (by decide)) tk (fun _ => .nil) (ea_one (ev_al 4)) (fun (_u992 : Unit) => (.cons (.ar _ _ rfl) .nil))))) (fun (a996 : Bool) => (es_S [.sc a, .v d690, .ow none (.list r964.2), .v d918, .ow none (.list r989.2), .ow none (.list r964.1), .v g990.1, .v g990.2] (es_retW (Sr := fun (a997 : D) => [.un, .un, .un, .un, .un, .un, .un, .un]) (fun (a997 : D) => a997) ev_bl (fun (a997 : D) => (WL.cons (.un _) (.cons (.un _) (.cons (.un _) (.cons (.un _) (.cons (.un _) (.cons (.un _) (.cons (.un _) (.cons (.un _) .nil)))))))))))) (fun (a996 : Bool) => (es_S [.sc a, .v d690, .ow none (.list r964.2), .v d918, .ow none (.list r989.2), .ow none (.list r964.1), .v g990.1, .v g990.2] (es_expr (ev_m1 (γ := D × (List D)) (op := opInsert) PySem.F.slot_list_insert PySem.F.type_list_insert insert_ok insert_ne 4 (fun (r1006 : D × (List D)) => [.sc a, .v d690, .ow none (.list r964.2), .v d918, .ow none (.list r1006.2), .ow none (.list r964.1), .v g990.1, .v g990.2]) (fun (r1006 : D × (List D)) => .v r1006.1) (fun (q1004 : D × D) d1005 => (d1005.1, d1005.2)) (fun _ => none) (fun (q1004 : D × D) => r989.2) (fun (q1004 : D × D) => [q1004.1, q1004.2]) (ea_cons (Rs := fun (q1004 : D × D) => [.v q1004.1, .v q1004.2]) (fun (q1004 : D × D) => [.sc a, .v d690, .ow none (.list r964.2), .v d918, .ow none (.list r989.2), .ow none (.list r964.1), .v g990.1, .v g990.2]) (fun (a998 : D) (r1003 : D) => (a998, r1003)) ev_int (fun (a998 : D) => (ea_one (ev_tup (γ := D) (fun (r1003 : D) => [.sc a, .v d690, .ow none (.list r964.2), .v d918, .ow none (.list r989.2), .ow none (.list r964.1), .v g990.1, .v g990.2]) (fun (r1003 : D) => .v r1003) (fun (q1001 : D × D) l1002 => (D.tup l1002)) (fun (q1001 : D × D) => [q1001.1, q1001.2]) (ea_cons (Rs := fun (q1001 : D × D) => [.v q1001.1, .v q1001.2]) (fun (q1001 : D × D) => [.sc a, .v d690, .ow none (.list r964.2), .v d918, .ow none (.list r989.2), .ow none (.list r964.1), .v g990.1, .v g990.2]) (fun (a999 : D) (a1000 : D) => (a999, a1000)) ev_str (fun (a999 : D) => (ea_one ev_str)))))))) (fun (r1006 : D × (List D)) => (es_S [.sc a, .v d690, .ow none (.list r964.2), .v d918, .ow none (.list r1006.2), .ow none (.list r964.1), .v g990.1, .v g990.2] (es_expr (ev_m1 (γ := D × (List D)) (op := opAppend) PySem.F.slot_list_append PySem.F.type_list_append append_ok append_ne 4 (fun (r1013 : D × (List D)) => [.sc a, .v d690, .ow none (.list r964.2), .v d918, .ow none (.list r1013.2), .ow none (.list r964.1), .v g990.1, .v g990.2]) (fun (r1013 : D × (List D)) => .v r1013.1) (fun (r1011 : D) d1012 => (d1012.1, d1012.2)) (fun _ => none) (fun (r1011 : D) => r1006.2) (fun (r1011 : D) => [r1011]) (ea_one (ev_tup (γ := D) (fun (r1011 : D) => [.sc a, .v d690, .ow none (.list r964.2), .v d918, .ow none (.list r1006.2), .ow none (.list r964.1), .v g990.1, .v g990.2]) (fun (r1011 : D) => .v r1011) (fun (q1009 : D × D) l1010 => (D.tup l1010)) (fun (q1009 : D × D) => [q1009.1, q1009.2]) (ea_cons (Rs := fun (q1009 : D × D) => [.v q1009.1, .v q1009.2]) (fun (q1009 : D × D) => [.sc a, .v d690, .ow none (.list r964.2), .v d918, .ow none (.list r1006.2), .ow none (.list r964.1), .v g990.1, .v g990.2]) (fun (a1007 : D) (a1008 : D) => (a1007, a1008)) ev_str (fun (a1007 : D) => (ea_one ev_str)))))) (fun (r1013 : D × (List D)) => (es_S [.sc a, .v d690, .ow none (.list r964.2), .v d918, .ow none (.list r1013.2), .ow none (.list r964.1), .v g990.1, .v g990.2] (es_ifl (et_w (ew_andP (et_cmpP hu (ev_f1 (op := opLen) len_ok len_ne T.b_len (ev_al 4)) (fun (a1015 : D) => ev_int)) (ew_and1 (et_notP (et_valP (ev_cd (γ := D) (k := 6) (αc := (List D)) (βc := D) (fun (r1021 : D) => [.sc a, .v d690, .ow none (.list r964.2), .v d918, .ow none (.list r1013.2), .ow none (.list r964.1), .v g990.1, .v g990.2]) (fun (r1021 : D) => .v r1021) (fun (_u1019 : Unit) => r1013.2) (fun (_u1019 : Unit) (b1020 : D) => b1020) [] d__law_right hgd (hr.mono (by decide)) tk (fun _ => .nil) (ea_one (ev_al 4)) (fun (_u1019 : Unit) => (.cons (.ar _ _ rfl) .nil)))))))) (fun (a1024 : Bool) => (es_S [.sc a, .v d690, .ow none (.list r964.2), .v d918, .ow none (.list r1013.2), .ow none (.list r964.1), .v g990.1, .v g990.2] (es_retW (Sr := fun (a1025 : D) => [.un, .un, .un, .un, .un, .un, .un, .un]) (fun (a1025 : D) => (Sum.inr (Ex.ret a1025))) ev_bl (fun (a1025 : D) => (WL.cons (.un _) (.cons (.un _) (.cons (.un _) (.cons (.un _) (.cons (.un _) (.cons (.un _) (.cons (.un _) (.cons (.un _) .nil)))))))))))) (fun (a1024 : Bool) => (es_S [.sc a, .v d690, .ow none (.list r964.2), .v d918, .ow none (.list r1013.2), .ow none (.list r964.1), .v g990.1, .v g990.2] (es_end (Sum.inl r964.2) (WL.cons (.rfl _) (.cons (.rfl _) (.cons (.rfl _) (.cons (.un _) (.cons (.un _) (.cons (.un _) (.cons (.un _) (.cons (.un _) .nil)))))))))))))))))))))))))) (fun (a987 : Bool) => (es_S [.sc a, .v d690, .ow none (.list r964.2), .v d918, .ow none (.list r951.1), .ow none (.list r964.1), .un, .un] (es_end (Sum.inl r964.2) (WL.cons (.rfl _) (.cons (.rfl _) (.cons (.rfl _) (.cons (.un _) (.cons (.un _) (.cons (.un _) (.cons (.rfl _) (.cons (.rfl _) .nil))))))))))))))))) nd))) nd))) (fun (b917 : (List D)) => (es_end (Sum.inl ()) (WL.cons (.rfl _) (.cons (.un _) (.cons (.un _) (.cons (.rfl _) (.cons (.rfl _) (.cons (.rfl _) (.cons (.rfl _) (.cons (.rfl _) .nil))))))))))))) nd))) (fun (b689 : Unit) => (es_retW (Sr := fun (a1078 : D) => [.un, .un, .un, .un, .un, .un, .un, .un]) (fun (a1078 : D) => a1078) (ev_blP (ev_band (ev_cmpP hu (ev_cd (γ := D) (k := 5) (αc := (List D)) (βc := D) (fun (r1032 : D) => [.sc a, .un, .un, .un, .un, .un, .un, .un]) (fun (r1032 : D) => .v r1032) (fun (a1030 : List D) => a1030) (fun (a1030 : List D) (b1031 : D) => b1031) [] d_first_wrong hgd (hr.mono (by decide)) tk (fun _ => .nil) (ea_one (ev_lst (γ := List D) (fun _ => [.sc a, .un, .un, .un, .un, .un, .un, .un]) (fun l => .ow none (.list l)) (fun _ l => l) (fun _ => []) ea_nil)) (fun (a1030 : List D) => (.cons (.owr _ _) .nil))) (fun (r1032 : D) => ev_non)) (ev_band1 (ev_cmpP hu (ev_cd (γ := D) (k := 5) (αc := (List D)) (βc := D) (fun (r1074 : D) => [.sc a, .un, .un, .un, .un, .un, .un, .un]) (fun (r1074 : D) => .v r1074) (fun (r1072 : (List D)) => r1072) (fun (r1072 : (List D)) (b1073 : D) => b1073) [] d_first_wrong hgd (hr.mono (by decide)) tk (fun _ => .nil) (ea_one (ev_lst (γ := (List D)) (fun (r1072 : (List D)) => [.sc a, .un, .un, .un, .un, .un, .un, .un]) (fun (r1072 : (List D)) => .ow none (.list r1072)) (fun (q1070 : D × D × D) (l1071 : List D) => l1071) (fun (q1070 : D × D × D) => [q1070.1, q1070.2.1, q1070.2.2]) (ea_cons (Rs := fun (q1070 : D × D × D) => [.v q1070.1, .v q1070.2.1, .v q1070.2.2]) (fun (q1070 : D × D × D) => [.sc a, .un, .un, .un, .un, .un, .un, .un]) (fun (r1058 : D) (q1069 : D × D) => (r1058, q1069)) (ev_tup (γ := D) (fun (r1058 : D) => [.sc a, .un, .un, .un, .un, .un, .un, .un]) (fun (r1058 : D) => .v r1058) (fun (q1056 : D × D) l1057 => (D.tup l1057)) (fun (q1056 : D × D) => [q1056.1, q1056.2]) (ea_cons (Rs := fun (q1056 : D × D) => [.v q1056.1, .v q1056.2]) (fun (q1056 : D × D) => [.sc a, .un, .un, .un, .un, .un, .un, .un]) (fun (a1054 : D) (a1055 : D) => (a1054, a1055)) ev_str (fun (a1054 : D) => (ea_one ev_str)))) (fun (r1058 : D) => (ea_cons (Rs := fun (q1069 : D × D) => [.v q1069.1, .v q1069.2]) (fun (q1069 : D × D) => [.sc a, .un, .un, .un, .un, .un, .un, .un]) (fun (r1063 : D) (r1068 : D) => (r1063, r1068)) (ev_tup (γ := D) (fun (r1063 : D) => [.sc a, .un, .un, .un, .un, .un, .un, .un]) (fun (r1063 : D) => .v r1063) (fun (q1061 : D × D) l1062 => (D.tup l1062)) (fun (q1061 : D × D) => [q1061.1, q1061.2]) (ea_cons (Rs := fun (q1061 : D × D) => [.v q1061.1, .v q1061.2]) (fun (q1061 : D × D) => [.sc a, .un, .un, .un, .un, .un, .un, .un]) (fun (a1059 : D) (a1060 : D) => (a1059, a1060)) ev_str (fun (a1059 : D) => (ea_one ev_str)))) (fun (r1063 : D) => (ea_one (ev_tup (γ := D) (fun (r1068 : D) => [.sc a, .un, .un, .un, .un, .un, .un, .un]) (fun (r1068 : D) => .v r1068) (fun (q1066 : D × D) l1067 => (D.tup l1067)) (fun (q1066 : D × D) => [q1066.1, q1066.2]) (ea_cons (Rs := fun (q1066 : D × D) => [.v q1066.1, .v q1066.2]) (fun (q1066 : D × D) => [.sc a, .un, .un, .un, .un, .un, .un, .un]) (fun (a1064 : D) (a1065 : D) => (a1064, a1065)) ev_str (fun (a1064 : D) => (ea_one ev_str))))))))))) (fun (r1072 : (List D)) => (.cons (.owr _ _) .nil))) (fun (r1074 : D) => ev_int))))) (fun (a1078 : D) => (WL.cons (.un _) (.cons (.rfl _) (.cons (.rfl _) (.cons (.rfl _) (.cons (.rfl _) (.cons (.rfl _) (.cons (.rfl _) (.cons (.rfl _) .nil))))))))))))
theorem all_mk {l : PySem.W.OpenLaw} {w : World} {K : PySem.W.Frag} {h : Heap} {mg : Str → Option Value} {fa : Addr} (X : K.In h) (G : h.Ns mainGlobals mg) (hfa : mg "law" = some (.ref fa))
    {t_EVICT_histories : Tok}
    {t_EVICT_logs : Tok}
    {t_HIT : Tok}
    {t_LETTERS : Tok}
    {t_LOAD : Tok}
    {t_MOST_LETTERS : Tok}
    {t_MOST_LINES : Tok}
    {C_InvalidLog : Addr}
    {f__law_pool : Addr} {od__law_pool an__law_pool : Option Addr} {sl__law_pool : Array (Option Value)} {oc__law_pool kV__law_pool dc__law_pool pm__law_pool cd__law_pool ct__law_pool : Value}
    {f__law_draw : Addr} {od__law_draw an__law_draw : Option Addr} {sl__law_draw : Array (Option Value)} {oc__law_draw kV__law_draw dc__law_draw pm__law_draw cd__law_draw ct__law_draw : Value}
    {f__law_names : Addr} {od__law_names an__law_names : Option Addr} {sl__law_names : Array (Option Value)} {oc__law_names kV__law_names dc__law_names pm__law_names cd__law_names ct__law_names : Value}
    {f__law_shuffled : Addr} {od__law_shuffled an__law_shuffled : Option Addr} {sl__law_shuffled : Array (Option Value)} {oc__law_shuffled kV__law_shuffled dc__law_shuffled pm__law_shuffled cd__law_shuffled ct__law_shuffled : Value}
    {f__law_log : Addr} {od__law_log an__law_log : Option Addr} {sl__law_log : Array (Option Value)} {oc__law_log kV__law_log dc__law_log pm__law_log cd__law_log ct__law_log : Value}
    {f__law_filled : Addr} {od__law_filled an__law_filled : Option Addr} {sl__law_filled : Array (Option Value)} {oc__law_filled kV__law_filled dc__law_filled pm__law_filled cd__law_filled ct__law_filled : Value}
    {f__law_first_wrong : Addr} {od__law_first_wrong an__law_first_wrong : Option Addr} {sl__law_first_wrong : Array (Option Value)} {oc__law_first_wrong kV__law_first_wrong dc__law_first_wrong pm__law_first_wrong cd__law_first_wrong ct__law_first_wrong : Value}
    {f_is_name : Addr} {od_is_name an_is_name : Option Addr} {sl_is_name : Array (Option Value)} {oc_is_name kV_is_name dc_is_name pm_is_name cd_is_name ct_is_name : Value}
    {f_is_line : Addr} {od_is_line an_is_line : Option Addr} {sl_is_line : Array (Option Value)} {oc_is_line kV_is_line dc_is_line pm_is_line cd_is_line ct_is_line : Value}
    {f_cached_behind : Addr} {od_cached_behind an_cached_behind : Option Addr} {sl_cached_behind : Array (Option Value)} {oc_cached_behind kV_cached_behind dc_cached_behind pm_cached_behind cd_cached_behind ct_cached_behind : Value}
    {T_cached_behind : Addr} {ocT_cached_behind : Value} {odT_cached_behind : Option Addr} {nT_cached_behind : Nat} {slT_cached_behind : Array (Option Value)}
    {E_cached_behind_1 : Addr} {odE_cached_behind_1 : Option Addr} {nE_cached_behind_1 : Nat} {slE_cached_behind_1 : Array (Option Value)}
    {f_is_log : Addr} {od_is_log an_is_log : Option Addr} {sl_is_log : Array (Option Value)} {oc_is_log kV_is_log dc_is_log pm_is_log cd_is_log ct_is_log : Value}
    {f_require_log : Addr} {od_require_log an_require_log : Option Addr} {sl_require_log : Array (Option Value)} {oc_require_log kV_require_log dc_require_log pm_require_log cd_require_log ct_require_log : Value}
    {f_after_line : Addr} {od_after_line an_after_line : Option Addr} {sl_after_line : Array (Option Value)} {oc_after_line kV_after_line dc_after_line pm_after_line cd_after_line ct_after_line : Value}
    {f_first_wrong_in : Addr} {od_first_wrong_in an_first_wrong_in : Option Addr} {sl_first_wrong_in : Array (Option Value)} {oc_first_wrong_in kV_first_wrong_in dc_first_wrong_in pm_first_wrong_in cd_first_wrong_in ct_first_wrong_in : Value}
    {f_first_wrong : Addr} {od_first_wrong an_first_wrong : Option Addr} {sl_first_wrong : Array (Option Value)} {oc_first_wrong kV_first_wrong dc_first_wrong pm_first_wrong cd_first_wrong ct_first_wrong : Value}
    {f__law_right : Addr} {od__law_right an__law_right : Option Addr} {sl__law_right : Array (Option Value)} {oc__law_right kV__law_right dc__law_right pm__law_right cd__law_right ct__law_right : Value}
    {f_law : Addr} {od_law an_law : Option Addr} {sl_law : Array (Option Value)} {oc_law kV_law dc_law pm_law cd_law ct_law : Value}
    (z_abs : PySem.W.nsIn K mainGlobals "abs" = some none)
    (z_all : PySem.W.nsIn K mainGlobals "all" = some none)
    (z_enumerate : PySem.W.nsIn K mainGlobals "enumerate" = some none)
    (z_isinstance : PySem.W.nsIn K mainGlobals "isinstance" = some none)
    (z_len : PySem.W.nsIn K mainGlobals "len" = some none)
    (z_list : PySem.W.nsIn K mainGlobals "list" = some none)
    (z_max : PySem.W.nsIn K mainGlobals "max" = some none)
    (z_min : PySem.W.nsIn K mainGlobals "min" = some none)
    (z_range : PySem.W.nsIn K mainGlobals "range" = some none)
    (z_repr : PySem.W.nsIn K mainGlobals "repr" = some none)
    (z_sorted : PySem.W.nsIn K mainGlobals "sorted" = some none)
    (z_str : PySem.W.nsIn K mainGlobals "str" = some none)
    (z_tuple : PySem.W.nsIn K mainGlobals "tuple" = some none)
    (g_EVICT_histories : PySem.W.nsIn K mainGlobals "EVICT_histories" = some (some (.str "evict" t_EVICT_histories)))
    (g_EVICT_logs : PySem.W.nsIn K mainGlobals "EVICT_logs" = some (some (.str "evict" t_EVICT_logs)))
    (g_HIT : PySem.W.nsIn K mainGlobals "HIT" = some (some (.str "hit" t_HIT)))
    (g_LETTERS : PySem.W.nsIn K mainGlobals "LETTERS" = some (some (.str "abcdefghijklmnopqrstuvwxyz" t_LETTERS)))
    (g_LOAD : PySem.W.nsIn K mainGlobals "LOAD" = some (some (.str "load" t_LOAD)))
    (g_MOST_LETTERS : PySem.W.nsIn K mainGlobals "MOST_LETTERS" = some (some (.int 8 t_MOST_LETTERS)))
    (g_MOST_LINES : PySem.W.nsIn K mainGlobals "MOST_LINES" = some (some (.int 40 t_MOST_LINES)))
    (xa_InvalidLog : PySem.W.nsIn K mainGlobals "InvalidLog" = some (some (.ref C_InvalidLog)))
    (xe_InvalidLog : PySem.W.excIn K C_InvalidLog [.type "ValueError", .type "Exception", .type "BaseException", .type "object"] "ValueError.__new__" = true)
    (xk_InvalidLog : PySem.W.keepIn K (.ref C_InvalidLog) = true)
    (xs_InvalidLog : PySem.W.subIn K (.ref C_InvalidLog) (.type "BaseException") = some true)
    (xt_InvalidLog : PySem.W.typeIn K (.ref C_InvalidLog) = some (.type "type"))
    (a__law_pool : PySem.W.nsIn K mainGlobals "_law_pool" = some (some (.ref f__law_pool)))
    (l__law_pool : K.lookup f__law_pool = some ⟨oc__law_pool, od__law_pool, .func (PySem.W.fnOf "_law_pool" "_law_pool" (defArgs (topS 21)) (defBody (topS 21)) (defScope (topS 21)) .none kV__law_pool dc__law_pool pm__law_pool an__law_pool cd__law_pool ct__law_pool), sl__law_pool⟩)
    (c__law_pool : PySem.W.codeIn K cd__law_pool "_law_pool" = true)
    (k__law_pool' : PySem.W.keepIn K (.ref f__law_pool) = true)
    (a__law_draw : PySem.W.nsIn K mainGlobals "_law_draw" = some (some (.ref f__law_draw)))
    (l__law_draw : K.lookup f__law_draw = some ⟨oc__law_draw, od__law_draw, .func (PySem.W.fnOf "_law_draw" "_law_draw" (defArgs (topS 22)) (defBody (topS 22)) (defScope (topS 22)) .none kV__law_draw dc__law_draw pm__law_draw an__law_draw cd__law_draw ct__law_draw), sl__law_draw⟩)
    (c__law_draw : PySem.W.codeIn K cd__law_draw "_law_draw" = true)
    (k__law_draw' : PySem.W.keepIn K (.ref f__law_draw) = true)
    (a__law_names : PySem.W.nsIn K mainGlobals "_law_names" = some (some (.ref f__law_names)))
    (l__law_names : K.lookup f__law_names = some ⟨oc__law_names, od__law_names, .func (PySem.W.fnOf "_law_names" "_law_names" (defArgs (topS 24)) (defBody (topS 24)) (defScope (topS 24)) .none kV__law_names dc__law_names pm__law_names an__law_names cd__law_names ct__law_names), sl__law_names⟩)
    (c__law_names : PySem.W.codeIn K cd__law_names "_law_names" = true)
    (k__law_names' : PySem.W.keepIn K (.ref f__law_names) = true)
    (a__law_shuffled : PySem.W.nsIn K mainGlobals "_law_shuffled" = some (some (.ref f__law_shuffled)))
    (l__law_shuffled : K.lookup f__law_shuffled = some ⟨oc__law_shuffled, od__law_shuffled, .func (PySem.W.fnOf "_law_shuffled" "_law_shuffled" (defArgs (topS 23)) (defBody (topS 23)) (defScope (topS 23)) .none kV__law_shuffled dc__law_shuffled pm__law_shuffled an__law_shuffled cd__law_shuffled ct__law_shuffled), sl__law_shuffled⟩)
    (c__law_shuffled : PySem.W.codeIn K cd__law_shuffled "_law_shuffled" = true)
    (k__law_shuffled' : PySem.W.keepIn K (.ref f__law_shuffled) = true)
    (a__law_log : PySem.W.nsIn K mainGlobals "_law_log" = some (some (.ref f__law_log)))
    (l__law_log : K.lookup f__law_log = some ⟨oc__law_log, od__law_log, .func (PySem.W.fnOf "_law_log" "_law_log" (defArgs (topS 25)) (defBody (topS 25)) (defScope (topS 25)) .none kV__law_log dc__law_log pm__law_log an__law_log cd__law_log ct__law_log), sl__law_log⟩)
    (c__law_log : PySem.W.codeIn K cd__law_log "_law_log" = true)
    (k__law_log' : PySem.W.keepIn K (.ref f__law_log) = true)
    (a__law_filled : PySem.W.nsIn K mainGlobals "_law_filled" = some (some (.ref f__law_filled)))
    (l__law_filled : K.lookup f__law_filled = some ⟨oc__law_filled, od__law_filled, .func (PySem.W.fnOf "_law_filled" "_law_filled" (defArgs (topS 26)) (defBody (topS 26)) (defScope (topS 26)) .none kV__law_filled dc__law_filled pm__law_filled an__law_filled cd__law_filled ct__law_filled), sl__law_filled⟩)
    (c__law_filled : PySem.W.codeIn K cd__law_filled "_law_filled" = true)
    (k__law_filled' : PySem.W.keepIn K (.ref f__law_filled) = true)
    (a__law_first_wrong : PySem.W.nsIn K mainGlobals "_law_first_wrong" = some (some (.ref f__law_first_wrong)))
    (l__law_first_wrong : K.lookup f__law_first_wrong = some ⟨oc__law_first_wrong, od__law_first_wrong, .func (PySem.W.fnOf "_law_first_wrong" "_law_first_wrong" (defArgs (topS 27)) (defBody (topS 27)) (defScope (topS 27)) .none kV__law_first_wrong dc__law_first_wrong pm__law_first_wrong an__law_first_wrong cd__law_first_wrong ct__law_first_wrong), sl__law_first_wrong⟩)
    (c__law_first_wrong : PySem.W.codeIn K cd__law_first_wrong "_law_first_wrong" = true)
    (k__law_first_wrong' : PySem.W.keepIn K (.ref f__law_first_wrong) = true)
    (a_is_name : PySem.W.nsIn K mainGlobals "is_name" = some (some (.ref f_is_name)))
    (l_is_name : K.lookup f_is_name = some ⟨oc_is_name, od_is_name, .func (PySem.W.fnOf "is_name" "is_name" (defArgs (topS 10)) (defBody (topS 10)) (defScope (topS 10)) .none kV_is_name dc_is_name pm_is_name an_is_name cd_is_name ct_is_name), sl_is_name⟩)
    (c_is_name : PySem.W.codeIn K cd_is_name "is_name" = true)
    (k_is_name' : PySem.W.keepIn K (.ref f_is_name) = true)
    (a_is_line : PySem.W.nsIn K mainGlobals "is_line" = some (some (.ref f_is_line)))
    (l_is_line : K.lookup f_is_line = some ⟨oc_is_line, od_is_line, .func (PySem.W.fnOf "is_line" "is_line" (defArgs (topS 11)) (defBody (topS 11)) (defScope (topS 11)) .none kV_is_line dc_is_line pm_is_line an_is_line cd_is_line ct_is_line), sl_is_line⟩)
    (c_is_line : PySem.W.codeIn K cd_is_line "is_line" = true)
    (k_is_line' : PySem.W.keepIn K (.ref f_is_line) = true)
    (a_cached_behind : PySem.W.nsIn K mainGlobals "cached_behind" = some (some (.ref f_cached_behind)))
    (l_cached_behind : K.lookup f_cached_behind = some ⟨oc_cached_behind, od_cached_behind, .func (PySem.W.fnOf "cached_behind" "cached_behind" (defArgs (topS 12)) (defBody (topS 12)) (defScope (topS 12)) (.ref T_cached_behind) kV_cached_behind dc_cached_behind pm_cached_behind an_cached_behind cd_cached_behind ct_cached_behind), sl_cached_behind⟩)
    (c_cached_behind : PySem.W.codeIn K cd_cached_behind "cached_behind" = true)
    (k_cached_behind' : PySem.W.keepIn K (.ref f_cached_behind) = true)
    (lT_cached_behind : K.lookup T_cached_behind = some ⟨ocT_cached_behind, odT_cached_behind, .seq #[Value.ref E_cached_behind_1] nT_cached_behind, slT_cached_behind⟩)
    (e_cached_behind_1 : K.lookup E_cached_behind_1 = some ⟨.type "tuple", odE_cached_behind_1, .seq #[] nE_cached_behind_1, slE_cached_behind_1⟩)
    (a_is_log : PySem.W.nsIn K mainGlobals "is_log" = some (some (.ref f_is_log)))
    (l_is_log : K.lookup f_is_log = some ⟨oc_is_log, od_is_log, .func (PySem.W.fnOf "is_log" "is_log" (defArgs (topS 13)) (defBody (topS 13)) (defScope (topS 13)) .none kV_is_log dc_is_log pm_is_log an_is_log cd_is_log ct_is_log), sl_is_log⟩)
    (c_is_log : PySem.W.codeIn K cd_is_log "is_log" = true)
    (k_is_log' : PySem.W.keepIn K (.ref f_is_log) = true)
    (a_require_log : PySem.W.nsIn K mainGlobals "require_log" = some (some (.ref f_require_log)))
    (l_require_log : K.lookup f_require_log = some ⟨oc_require_log, od_require_log, .func (PySem.W.fnOf "require_log" "require_log" (defArgs (topS 14)) (defBody (topS 14)) (defScope (topS 14)) .none kV_require_log dc_require_log pm_require_log an_require_log cd_require_log ct_require_log), sl_require_log⟩)
    (c_require_log : PySem.W.codeIn K cd_require_log "require_log" = true)
    (k_require_log' : PySem.W.keepIn K (.ref f_require_log) = true)
    (a_after_line : PySem.W.nsIn K mainGlobals "after_line" = some (some (.ref f_after_line)))
    (l_after_line : K.lookup f_after_line = some ⟨oc_after_line, od_after_line, .func (PySem.W.fnOf "after_line" "after_line" (defArgs (topS 18)) (defBody (topS 18)) (defScope (topS 18)) .none kV_after_line dc_after_line pm_after_line an_after_line cd_after_line ct_after_line), sl_after_line⟩)
    (c_after_line : PySem.W.codeIn K cd_after_line "after_line" = true)
    (k_after_line' : PySem.W.keepIn K (.ref f_after_line) = true)
    (a_first_wrong_in : PySem.W.nsIn K mainGlobals "first_wrong_in" = some (some (.ref f_first_wrong_in)))
    (l_first_wrong_in : K.lookup f_first_wrong_in = some ⟨oc_first_wrong_in, od_first_wrong_in, .func (PySem.W.fnOf "first_wrong_in" "first_wrong_in" (defArgs (topS 17)) (defBody (topS 17)) (defScope (topS 17)) .none kV_first_wrong_in dc_first_wrong_in pm_first_wrong_in an_first_wrong_in cd_first_wrong_in ct_first_wrong_in), sl_first_wrong_in⟩)
    (c_first_wrong_in : PySem.W.codeIn K cd_first_wrong_in "first_wrong_in" = true)
    (k_first_wrong_in' : PySem.W.keepIn K (.ref f_first_wrong_in) = true)
    (a_first_wrong : PySem.W.nsIn K mainGlobals "first_wrong" = some (some (.ref f_first_wrong)))
    (l_first_wrong : K.lookup f_first_wrong = some ⟨oc_first_wrong, od_first_wrong, .func (PySem.W.fnOf "first_wrong" "first_wrong" (defArgs (topS 19)) (defBody (topS 19)) (defScope (topS 19)) .none kV_first_wrong dc_first_wrong pm_first_wrong an_first_wrong cd_first_wrong ct_first_wrong), sl_first_wrong⟩)
    (c_first_wrong : PySem.W.codeIn K cd_first_wrong "first_wrong" = true)
    (k_first_wrong' : PySem.W.keepIn K (.ref f_first_wrong) = true)
    (a__law_right : PySem.W.nsIn K mainGlobals "_law_right" = some (some (.ref f__law_right)))
    (l__law_right : K.lookup f__law_right = some ⟨oc__law_right, od__law_right, .func (PySem.W.fnOf "_law_right" "_law_right" (defArgs (topS 28)) (defBody (topS 28)) (defScope (topS 28)) .none kV__law_right dc__law_right pm__law_right an__law_right cd__law_right ct__law_right), sl__law_right⟩)
    (c__law_right : PySem.W.codeIn K cd__law_right "_law_right" = true)
    (k__law_right' : PySem.W.keepIn K (.ref f__law_right) = true)
    (a_law : PySem.W.nsIn K mainGlobals "law" = some (some (.ref f_law)))
    (l_law : K.lookup f_law = some ⟨oc_law, od_law, .func (PySem.W.fnOf "law" "law" (defArgs (topS 29)) (defBody (topS 29)) (defScope (topS 29)) .none kV_law dc_law pm_law an_law cd_law ct_law), sl_law⟩)
    (c_law : PySem.W.codeIn K cd_law "law" = true)
    (k_law' : PySem.W.keepIn K (.ref f_law) = true) :
    ∃ fd : FuncData, (∀ (s : Shared) (v : Value), BindsTo s fd ⟨[v], []⟩ [("script", v)]) ∧ ∀ base : Heap, K.In base → base.Ns mainGlobals mg → FnG l.prog w K mg base 7 fa fd ["script"] (spF K mg 1 (fun a : List D => [.sc a]) [] m_law_v3 (fun _ => [.un]) .v) := by
  have T : Tx K mg := ⟨PySem.W.mg_none_of X G z_abs, PySem.W.mg_none_of X G z_all, PySem.W.mg_none_of X G z_enumerate, PySem.W.mg_none_of X G z_isinstance, PySem.W.mg_none_of X G z_len, PySem.W.mg_none_of X G z_list, PySem.W.mg_none_of X G z_max, PySem.W.mg_none_of X G z_min, PySem.W.mg_none_of X G z_range, PySem.W.mg_none_of X G z_repr, PySem.W.mg_none_of X G z_sorted, PySem.W.mg_none_of X G z_str, PySem.W.mg_none_of X G z_tuple, ⟨_, PySem.W.mg_of X G g_EVICT_histories⟩, ⟨_, PySem.W.mg_of X G g_EVICT_logs⟩, ⟨_, PySem.W.mg_of X G g_HIT⟩, ⟨_, PySem.W.mg_of X G g_LETTERS⟩, ⟨_, PySem.W.mg_of X G g_LOAD⟩, ⟨_, PySem.W.mg_of X G g_MOST_LETTERS⟩, ⟨_, PySem.W.mg_of X G g_MOST_LINES⟩, ⟨⟨C_InvalidLog, _, _, _, _, PySem.F.excBase_ValueError, xe_InvalidLog, PySem.W.mg_of X G xa_InvalidLog, xk_InvalidLog, xs_InvalidLog, xt_InvalidLog⟩⟩, trivial⟩
  have F__law_pool := fun_mk (st := (topS 21)) l__law_pool c__law_pool k__law_pool'
  have b__law_pool := F__law_pool.binds (ps := ["script", "at"]) fun _ _ _ _ _ _ us hl => match us, hl with | [_, _], _ => rfl
  have D__law_pool : ∀ base : Heap, DefD l.prog w K mg base 1 "_law_pool" 2 [] (sp__law_pool K mg) := fun base => ⟨⟨_, _, _, [], rfl, w__law_pool T  (FnX.of F__law_pool), PySem.W.mg_of X G a__law_pool, k__law_pool', .nil, b__law_pool⟩⟩
  have F__law_draw := fun_mk (st := (topS 22)) l__law_draw c__law_draw k__law_draw'
  have b__law_draw := F__law_draw.binds (ps := ["pool", "many"]) fun _ _ _ _ _ _ us hl => match us, hl with | [_, _], _ => rfl
  have D__law_draw : ∀ base : Heap, DefD l.prog w K mg base 1 "_law_draw" 2 [] (sp__law_draw K mg) := fun base => ⟨⟨_, _, _, [], rfl, w__law_draw T  (FnX.of F__law_draw), PySem.W.mg_of X G a__law_draw, k__law_draw', .nil, b__law_draw⟩⟩
  have F__law_names := fun_mk (st := (topS 24)) l__law_names c__law_names k__law_names'
  have b__law_names := F__law_names.binds (ps := []) fun _ _ _ _ _ _ us hl => match us, hl with | [], _ => rfl
  have D__law_names : ∀ base : Heap, DefD l.prog w K mg base 1 "_law_names" 0 [] (sp__law_names K mg) := fun base => ⟨⟨_, _, _, [], rfl, w__law_names T  (FnX.of F__law_names), PySem.W.mg_of X G a__law_names, k__law_names', .nil, b__law_names⟩⟩
  have F__law_shuffled := fun_mk (st := (topS 23)) l__law_shuffled c__law_shuffled k__law_shuffled'
  have b__law_shuffled := F__law_shuffled.binds (ps := ["pool", "things"]) fun _ _ _ _ _ _ us hl => match us, hl with | [_, _], _ => rfl
  have D__law_shuffled : ∀ base : Heap, DefD l.prog w K mg base 2 "_law_shuffled" 2 [] (sp__law_shuffled K mg) := fun base => ⟨⟨_, _, _, [], rfl, w__law_shuffled T (D__law_draw base) (FnX.of F__law_shuffled), PySem.W.mg_of X G a__law_shuffled, k__law_shuffled', .nil, b__law_shuffled⟩⟩
  have F__law_log := fun_mk (st := (topS 25)) l__law_log c__law_log k__law_log'
  have b__law_log := F__law_log.binds (ps := ["pool", "most"]) fun _ _ _ _ _ _ us hl => match us, hl with | [_, _], _ => rfl
  have D__law_log : ∀ base : Heap, DefD l.prog w K mg base 3 "_law_log" 2 [] (sp__law_log K mg) := fun base => ⟨⟨_, _, _, [], rfl, w__law_log T (D__law_draw base) (D__law_names base) (D__law_shuffled base) (FnX.of F__law_log), PySem.W.mg_of X G a__law_log, k__law_log', .nil, b__law_log⟩⟩
  have F__law_filled := fun_mk (st := (topS 26)) l__law_filled c__law_filled k__law_filled'
  have b__law_filled := F__law_filled.binds (ps := ["pool", "log"]) fun _ _ _ _ _ _ us hl => match us, hl with | [_, _], _ => rfl
  have D__law_filled : ∀ base : Heap, DefD l.prog w K mg base 3 "_law_filled" 2 [] (sp__law_filled K mg) := fun base => ⟨⟨_, _, _, [], rfl, w__law_filled T (D__law_draw base) (D__law_shuffled base) (FnX.of F__law_filled), PySem.W.mg_of X G a__law_filled, k__law_filled', .nil, b__law_filled⟩⟩
  have F__law_first_wrong := fun_mk (st := (topS 27)) l__law_first_wrong c__law_first_wrong k__law_first_wrong'
  have b__law_first_wrong := F__law_first_wrong.binds (ps := ["lines"]) fun _ _ _ _ _ _ us hl => match us, hl with | [_], _ => rfl
  have D__law_first_wrong : ∀ base : Heap, DefD l.prog w K mg base 1 "_law_first_wrong" 1 [] (sp__law_first_wrong K mg) := fun base => ⟨⟨_, _, _, [], rfl, w__law_first_wrong T  (FnX.of F__law_first_wrong), PySem.W.mg_of X G a__law_first_wrong, k__law_first_wrong', .nil, b__law_first_wrong⟩⟩
  have F_is_name := fun_mk (st := (topS 10)) l_is_name c_is_name k_is_name'
  have b_is_name := F_is_name.binds (ps := ["value"]) fun _ _ _ _ _ _ us hl => match us, hl with | [_], _ => rfl
  have D_is_name : ∀ base : Heap, DefD l.prog w K mg base 1 "is_name" 1 [] (sp_is_name K mg) := fun base => ⟨⟨_, _, _, [], rfl, w_is_name T  (FnX.of F_is_name), PySem.W.mg_of X G a_is_name, k_is_name', .nil, b_is_name⟩⟩
  have F_is_line := fun_mk (st := (topS 11)) l_is_line c_is_line k_is_line'
  have b_is_line := F_is_line.binds (ps := ["value"]) fun _ _ _ _ _ _ us hl => match us, hl with | [_], _ => rfl
  have D_is_line : ∀ base : Heap, DefD l.prog w K mg base 2 "is_line" 1 [] (sp_is_line K mg) := fun base => ⟨⟨_, _, _, [], rfl, w_is_line T (D_is_name base) (FnX.of F_is_line), PySem.W.mg_of X G a_is_line, k_is_line', .nil, b_is_line⟩⟩
  have F_cached_behind : FunD K "cached_behind" "cached_behind" (defArgs (topS 12)) (defBody (topS 12)) (defScope (topS 12)) [V.ref E_cached_behind_1] [] f_cached_behind _ := ⟨⟨_, _, _, _, _, _, _, _, _, _, rfl, l_cached_behind, c_cached_behind, .inr ⟨by nofun, T_cached_behind, _, [Value.ref E_cached_behind_1], _, rfl, lT_cached_behind, rfl, (.cons rfl .nil)⟩, .inl rfl⟩, k_cached_behind'⟩
  obtain ⟨ds_cached_behind_1, v_cached_behind_1, b_cached_behind_1⟩ := F_cached_behind.binds1 (ps := ["lines", "names"]) 1 0 (by nofun) rfl fun _ _ _ _ _ _ _ us its hl hi => match us, hl, its, hi with | [_], _, [_], _ => ⟨_, rfl, rfl⟩
  have D_cached_behind_1 : ∀ base : Heap, DefD l.prog w K mg base 1 "cached_behind" 2 [V.ref E_cached_behind_1] (sp_cached_behind K mg) := fun base => ⟨⟨_, _, _, ds_cached_behind_1, rfl, w_cached_behind T  (FnX.ofD F_cached_behind), PySem.W.mg_of X G a_cached_behind, k_cached_behind', v_cached_behind_1, b_cached_behind_1⟩⟩
  have hds_cached_behind_1 : ∀ F, RpL K F [V.ref E_cached_behind_1] [(D.tup [])] := fun F => (.cons (.tup (.inr ⟨_, _, _, e_cached_behind_1, rfl, rfl, Nat.zero_le _, .nil⟩) .nil) .nil)
  have F_is_log := fun_mk (st := (topS 13)) l_is_log c_is_log k_is_log'
  have b_is_log := F_is_log.binds (ps := ["value"]) fun _ _ _ _ _ _ us hl => match us, hl with | [_], _ => rfl
  have D_is_log : ∀ base : Heap, DefD l.prog w K mg base 3 "is_log" 1 [] (sp_is_log K mg) := fun base => ⟨⟨_, _, _, [], rfl, w_is_log T (D_cached_behind_1 base) hds_cached_behind_1 (D_is_line base) (FnX.of F_is_log), PySem.W.mg_of X G a_is_log, k_is_log', .nil, b_is_log⟩⟩
  have F_require_log := fun_mk (st := (topS 14)) l_require_log c_require_log k_require_log'
  have b_require_log := F_require_log.binds (ps := ["log"]) fun _ _ _ _ _ _ us hl => match us, hl with | [_], _ => rfl
  have D_require_log : ∀ base : Heap, DefD l.prog w K mg base 4 "require_log" 1 [] (sp_require_log K mg) := fun base => ⟨⟨_, _, _, [], rfl, w_require_log T (D_is_log base) (FnX.of F_require_log), PySem.W.mg_of X G a_require_log, k_require_log', .nil, b_require_log⟩⟩
  have F_after_line := fun_mk (st := (topS 18)) l_after_line c_after_line k_after_line'
  have b_after_line := F_after_line.binds (ps := ["order", "word", "name"]) fun _ _ _ _ _ _ us hl => match us, hl with | [_, _, _], _ => rfl
  have D_after_line : ∀ base : Heap, DefD l.prog w K mg base 1 "after_line" 3 [] (sp_after_line K mg) := fun base => ⟨⟨_, _, _, [], rfl, w_after_line T  (FnX.of F_after_line), PySem.W.mg_of X G a_after_line, k_after_line', .nil, b_after_line⟩⟩
  have F_first_wrong_in := fun_mk (st := (topS 17)) l_first_wrong_in c_first_wrong_in k_first_wrong_in'
  have b_first_wrong_in := F_first_wrong_in.binds (ps := ["lines"]) fun _ _ _ _ _ _ us hl => match us, hl with | [_], _ => rfl
  have D_first_wrong_in : ∀ base : Heap, DefD l.prog w K mg base 2 "first_wrong_in" 1 [] (sp_first_wrong_in K mg) := fun base => ⟨⟨_, _, _, [], rfl, w_first_wrong_in T (D_after_line base) (FnX.of F_first_wrong_in), PySem.W.mg_of X G a_first_wrong_in, k_first_wrong_in', .nil, b_first_wrong_in⟩⟩
  have F_first_wrong := fun_mk (st := (topS 19)) l_first_wrong c_first_wrong k_first_wrong'
  have b_first_wrong := F_first_wrong.binds (ps := ["log"]) fun _ _ _ _ _ _ us hl => match us, hl with | [_], _ => rfl
  have D_first_wrong : ∀ base : Heap, DefD l.prog w K mg base 5 "first_wrong" 1 [] (sp_first_wrong K mg) := fun base => ⟨⟨_, _, _, [], rfl, w_first_wrong T (D_first_wrong_in base) (D_require_log base) (FnX.of F_first_wrong), PySem.W.mg_of X G a_first_wrong, k_first_wrong', .nil, b_first_wrong⟩⟩
  have F__law_right := fun_mk (st := (topS 28)) l__law_right c__law_right k__law_right'
  have b__law_right := F__law_right.binds (ps := ["log"]) fun _ _ _ _ _ _ us hl => match us, hl with | [_], _ => rfl
  have D__law_right : ∀ base : Heap, DefD l.prog w K mg base 6 "_law_right" 1 [] (sp__law_right K mg) := fun base => ⟨⟨_, _, _, [], rfl, w__law_right T (D__law_first_wrong base) (D_first_wrong base) (FnX.of F__law_right), PySem.W.mg_of X G a__law_right, k__law_right', .nil, b__law_right⟩⟩
  have F_law := fun_mk (st := (topS 29)) l_law c_law k_law'
  have b_law := F_law.binds (ps := ["script"]) fun _ _ _ _ _ _ us hl => match us, hl with | [_], _ => rfl
  have e := hfa.symm.trans (PySem.W.mg_of X G a_law)
  cases e
  exact ⟨_, fun s v => .of_eq rfl, fun base _ _ => w_law T (D__law_draw base) (D__law_filled base) (D__law_log base) (D__law_pool base) (D__law_right base) (D_first_wrong base) (FnX.of F_law)⟩
end K07
/-! plain laws of the mirrors' operations -/
namespace G
open PySem L2
theorem lg {a : Int} {k : Nat} (h : a.natAbs < 2 ^ k) (hk : 0 < k) : a.natAbs.log2 < k := by
  by_cases h0 : a.natAbs = 0
  · rw [h0]; exact hk
  · exact (Nat.log2_lt h0).mpr h
theorem opB_add {a b : Int} : opB .Add (.int a) (.int b) = .ok (.int (a + b)) := rfl
theorem opB_sub {a b : Int} : opB .Sub (.int a) (.int b) = .ok (.int (a - b)) := rfl
theorem opB_mod {a b : Int} (h : 0 < b) : opB .Mod (.int a) (.int b) = .ok (.int (a % b)) := by simp [opB, h]
theorem opB_div {a b : Int} (h : 0 < b) (h2 : b < 2 ^ 1000) : opB .FloorDiv (.int a) (.int b) = .ok (.int (a / b)) := by
  have : b.natAbs.log2 < 9000 := Nat.lt_trans (lg (k := 1000) (by omega) (by decide)) (by decide)
  simp [opB, h, this]
theorem opB_mul {a b : Int} (h1 : a.natAbs < 2 ^ 1000) (h2 : b.natAbs < 2 ^ 1000) : opB .Mult (.int a) (.int b) = .ok (.int (a * b)) := by
  have h3 := lg h1 (by decide)
  have h4 := lg h2 (by decide)
  have : a.natAbs.log2 + b.natAbs.log2 < 1000000 := by omega
  simp [opB, this]
theorem opB_pow {a : Int} {n : Nat} (h1 : a.natAbs < 2 ^ 1000) (h2 : n ≤ 1000) : opB .Pow (.int a) (.int n) = .ok (.int (a ^ n)) := by
  have h3 := lg h1 (by decide)
  have : a.natAbs.log2 < 100000 := by omega
  have h5 : (n : Int) ≤ 1000 := by omega
  simp [opB, this, h5]
theorem opB_pow3 {a : Int} (h1 : a.natAbs < 2 ^ 1000) : opB .Pow (.int a) (.int 3) = .ok (.int (a ^ 3)) := opB_pow (n := 3) h1 (by decide)
theorem opB_pow5 {a : Int} (h1 : a.natAbs < 2 ^ 1000) : opB .Pow (.int a) (.int 5) = .ok (.int (a ^ 5)) := opB_pow (n := 5) h1 (by decide)
theorem ix3_0 {x y z : D} : opIx (.list [x, y, z]) (.int 0) = .ok x := rfl
theorem ix3_1 {x y z : D} : opIx (.list [x, y, z]) (.int 1) = .ok y := rfl
theorem ix3_2 {x y z : D} : opIx (.list [x, y, z]) (.int 2) = .ok z := rfl
theorem set3_0 {x y z v : D} : opSet [x, y, z] (.int 0) v = .ok [v, y, z] := rfl
theorem set3_1 {x y z v : D} : opSet [x, y, z] (.int 1) v = .ok [x, v, z] := rfl
theorem set3_2 {x y z v : D} : opSet [x, y, z] (.int 2) v = .ok [x, y, v] := rfl
/-- a place in a list -/
theorem opIx_at {xs : List D} {i : Nat} {d : D} (h : xs[i]? = some d) : opIx (.list xs) (.int i) = .ok d := by
  have hi := (List.getElem?_eq_some_iff.mp h).1
  have h2 := (List.getElem?_eq_some_iff.mp h).2
  simp [opIx, atI, ixN, hi, h2, ofO]
theorem opIx_int {xs : List D} {i : Int} (h0 : 0 ≤ i) (h1 : i < xs.length) : ∃ d, xs[i.toNat]? = some d ∧ opIx (.list xs) (.int i) = .ok d := by
  have hi : i.toNat < xs.length := by omega
  refine ⟨xs[i.toNat], List.getElem?_eq_getElem hi, ?_⟩
  have := opIx_at (xs := xs) (i := i.toNat) (List.getElem?_eq_getElem hi)
  rwa [Int.toNat_of_nonneg h0] at this
end G
namespace G
open PySem L2
theorem perm_erase {xs : List D} : ∀ {i : Nat} (h : i < xs.length), (xs[i] :: xs.eraseIdx i).Perm xs := by
  induction xs with
  | nil => intro i h; exact absurd h (Nat.not_lt_zero _)
  | cons x xs ih =>
    intro i h
    match i with
    | 0 => exact List.Perm.refl _
    | i + 1 =>
      have := ih (i := i) (by simpa using h)
      simp only [List.getElem_cons_succ, List.eraseIdx_cons_succ]
      exact (List.Perm.swap _ _ _).trans (this.cons x)
theorem popAt_int {xs : List D} {r : Int} (h0 : 0 ≤ r) (h1 : r < xs.length) (h2 : r < 2 ^ 62) : ∃ d, xs[r.toNat]? = some d ∧ opPopAt xs [.int r] = .ok (d, xs.eraseIdx r.toNat) ∧ (d :: xs.eraseIdx r.toNat).Perm xs := by
  have hi : r.toNat < xs.length := by omega
  have e : seqIndex? r xs.length = some r.toNat := (ixN_seq (n := xs.length) (i := r) (j := r.toNat) (by simp [ixN, h0, h1])).1
  refine ⟨xs[r.toNat], List.getElem?_eq_getElem hi, ?_, perm_erase hi⟩
  have e2 : xs[r.toNat]? = some xs[r.toNat] := List.getElem?_eq_getElem hi
  have e3 : -(2 ^ 63) ≤ r ∧ r < 2 ^ 63 := by omega
  simp only [opPopAt, e, e2, if_pos e3]
theorem opLen_list {xs : List D} : opLen [.list xs] = .ok (.int xs.length) := rfl
theorem append_ok' {xs : List D} {d : D} (h : xs.length < sizeLine) : opAppend xs [d] = .ok (.non, xs ++ [d]) := by simp [opAppend, h]
theorem lcTurn_t {β ε : Type} {m : β → D → Res ε} {b1 : β → D → Unit → Unit → β} {b2 : β → D → Unit → Unit → ε → β} {y : ε → D} : lcTurn (γ := Unit) (δ := Unit) (ε := ε) (fun _ _ => Res.ok ()) (fun _ _ _ => Res.ok ()) (fun _ => true) (fun b d _ _ => m b d) b1 b2 y = fun b d => (m b d).bind fun r => .ok (b2 b d () () r, some (y r)) := by
  funext b d
  cases h : m b d <;> simp [lcTurn, h, Res.bind]
end G
namespace PL
open PySem L2 G M
theorem draw_ok {p0 p1 p2 many : Int} (h0 : 0 ≤ p0) (h1 : 0 ≤ p1 ∧ p1 < 2 ^ 64) (h2 : 0 ≤ p2 ∧ p2 ≤ 10 ^ 12) (hm : 0 < many ∧ many < 2 ^ 30) : ∃ r q0 q2, m_law_draw_v2 ([.int p0, .int p1, .int p2], .int many) = .ok (.int r, [.int q0, .int p1, .int q2]) ∧ 0 ≤ r ∧ r < many ∧ 0 ≤ q0 ∧ p2 ≤ q2 ∧ q2 ≤ p2 + 1 := by
  by_cases hp : 0 < p0
  · refine ⟨p0 % many, p0 / many, p2, ?_, Int.emod_nonneg _ (by omega), Int.emod_lt_of_pos _ hm.1, Int.ediv_nonneg h0 (by omega), Int.le_refl _, by omega⟩
    simp [m_law_draw_v2, ix3_0, ix3_1, ix3_2, set3_0, opC, opB_mod hm.1, opB_div hm.1 (by omega : many < 2 ^ 1000), hp]
  · have hM1 : (0 : Int) < 618970019642690137449562111 := by decide
    have hM2 : (0 : Int) < 162259276829213363391578010288127 := by decide
    have b1 := Int.emod_lt_of_pos ((p1 + 104729 * (p2 + 1)) ^ 3) hM1
    have b0 := Int.emod_nonneg ((p1 + 104729 * (p2 + 1)) ^ 3) (Int.ne_of_gt hM1)
    have e1 : opB .Mult (.int 104729) (.int (p2 + 1)) = .ok (.int (104729 * (p2 + 1))) := opB_mul (by decide) (by omega)
    have e2 : opB .Pow (.int (p1 + 104729 * (p2 + 1))) (.int 3) = .ok (.int ((p1 + 104729 * (p2 + 1)) ^ 3)) := opB_pow3 (by omega)
    generalize (p1 + 104729 * (p2 + 1)) ^ 3 = c1 at *
    have e3 : opB .Mult (.int 1299709) (.int (p2 + 1)) = .ok (.int (1299709 * (p2 + 1))) := opB_mul (by decide) (by omega)
    have e4 : opB .Pow (.int (c1 % 618970019642690137449562111 + 1299709 * (p2 + 1))) (.int 3) = .ok (.int ((c1 % 618970019642690137449562111 + 1299709 * (p2 + 1)) ^ 3)) := opB_pow3 (by omega)
    generalize (c1 % 618970019642690137449562111 + 1299709 * (p2 + 1)) ^ 3 = c2 at *
    refine ⟨c2 % 162259276829213363391578010288127 / 4096 % many, p0, p2 + 1, ?_, Int.emod_nonneg _ (by omega), Int.emod_lt_of_pos _ hm.1, h0, by omega, by omega⟩
    simp [m_law_draw_v2, ix3_0, ix3_1, ix3_2, set3_2, opC, opB_add, e1, e2, opB_mod hM1, opB_mod hM2, e3, e4, opB_mod hm.1, opB_div (by decide : (0 : Int) < 4096) (by decide), hp]
theorem pool_ok (ns : List Int) {at_ : Int} (h0 : 0 ≤ at_) (h1 : at_ < 1000) : ∃ p0 p1, m_law_pool (ns.map .int, .int at_) = .ok [.int p0, .int p1, .int 0] ∧ 0 ≤ p0 ∧ 0 ≤ p1 ∧ p1 < 2 ^ 64 := by
  have hM : (0 : Int) < 2305843009213693951 := by decide
  have key : ∀ c : Int, ∃ p0 p1, ((((Res.ok (D.int 0)).bind fun (a22 : D) => (((Res.ok (D.int c)).bind fun (a23 : D) => opAbs [a23]).bind fun (a24 : D) => ((Res.ok (D.int 10)).bind fun (a25 : D) => (Res.ok (D.int 18)).bind fun (a26 : D) => opB .Pow a25 a26).bind fun (a27 : D) => opB .Sub a24 a27).bind fun (a28 : D) => opMax [a22, a28]).bind fun (a29 : D) => ((((Res.ok (D.int c)).bind fun (a30 : D) => (Res.ok (D.int 2305843009213693951)).bind fun (a31 : D) => opB .Mod a30 a31).bind fun (a32 : D) => ((Res.ok (D.int 7919)).bind fun (a33 : D) => ((Res.ok (D.int at_)).bind fun (a34 : D) => (Res.ok (D.int 1)).bind fun (a35 : D) => opB .Add a34 a35).bind fun (a36 : D) => opB .Mult a33 a36).bind fun (a37 : D) => opB .Add a32 a37).bind fun (a38 : D) => (Res.ok (D.int 0)).bind fun (a39 : D) => .ok (a38, a39)).bind fun (q40 : D × D) => .ok (a29, q40)).bind fun (q41 : D × D × D) => Res.ok ([q41.1, q41.2.1, q41.2.2])) = .ok [.int p0, .int p1, .int 0] ∧ 0 ≤ p0 ∧ 0 ≤ p1 ∧ p1 < 2 ^ 64 := fun c => by
    have b1 := Int.emod_lt_of_pos c hM
    have b0 := Int.emod_nonneg c (Int.ne_of_gt hM)
    have e1 : opB .Mult (.int 7919) (.int (at_ + 1)) = .ok (.int (7919 * (at_ + 1))) := opB_mul (by decide) (by omega)
    have e2 : opB .Pow (.int 10) (.int 18) = .ok (.int (10 ^ 18)) := opB_pow (n := 18) (by decide) (by decide)
    refine ⟨_, _, by simp only [Res.bind_ok, opAbs, e1, e2, opB_mod hM, opB_add, opB_sub, opMax]; rfl, ?_, by omega, by omega⟩
    split <;> omega
  have hx : ∃ c : Int, (iteR ((Res.ok (D.int at_)).bind fun (a13 : D) => ((Res.ok ()).bind fun (_u14 : Unit) => .ok (.int ((ns.map D.int)).length)).bind fun (a15 : D) => opC .Lt a13 a15) ((Res.ok ()).bind fun (_u17 : Unit) => (Res.ok (D.int at_)).bind fun (a18 : D) => opIx (.list (ns.map D.int)) a18) (Res.ok (D.int 0))) = .ok (.int c) := by
    by_cases hlt : at_ < ns.length
    · obtain ⟨d, hd, e⟩ := opIx_int (xs := ns.map D.int) h0 (by simpa using hlt)
      rw [List.getElem?_map] at hd
      obtain ⟨c, _, rfl⟩ := Option.map_eq_some_iff.mp hd
      refine ⟨c, ?_⟩
      simp [iteR, opC, hlt, e]
    · exact ⟨0, by simp [iteR, opC, hlt]⟩
  obtain ⟨c, hc⟩ := hx
  obtain ⟨p0, p1, e, h⟩ := key c
  refine ⟨p0, p1, ?_, h⟩
  unfold m_law_pool
  simp only at hc ⊢
  rw [hc]
  simpa only [Res.bind_ok, Res.bind_id] using e
def names : List Str := [("a" : Str), ("b" : Str), ("c" : Str), ("d" : Str), ("e" : Str), ("f" : Str), ("g" : Str), ("h" : Str), ("i" : Str), ("j" : Str), ("k" : Str), ("l" : Str), ("m" : Str), ("n" : Str), ("o" : Str), ("p" : Str), ("q" : Str), ("r" : Str), ("s" : Str), ("t" : Str), ("u" : Str), ("v" : Str), ("w" : Str), ("x" : Str), ("y" : Str), ("z" : Str), ("abcdefgh" : Str), ("zz" : Str), ("kk" : Str), ("kkk" : Str), ("kkkk" : Str), ("kkkkk" : Str), ("kkkkkk" : Str), ("kkkkkkk" : Str), ("kkkkkkkk" : Str), ("load" : Str), ("hit" : Str), ("evict" : Str), ("no" : Str), ("yes" : Str)]
theorem names_ok : m_law_names () = .ok (names.map .str) := by kernel_rfl
theorem names_nodup : names.Nodup := by decide +kernel
/-! ### the drawn pool -/
def PO (n : Int) (p : List D) : Prop := ∃ p0 p1 p2 : Int, p = [.int p0, .int p1, .int p2] ∧ 0 ≤ p0 ∧ 0 ≤ p1 ∧ p1 < 2 ^ 64 ∧ 0 ≤ p2 ∧ p2 ≤ n
theorem PO.mono {n m : Int} {p : List D} (h : PO n p) (l : n ≤ m) : PO m p := by
  obtain ⟨a, b, c, e, h1, h2, h3, h4, h5⟩ := h
  exact ⟨a, b, c, e, h1, h2, h3, h4, by omega⟩
theorem drawP {n many : Int} {p : List D} (h : PO n p) (hn : n ≤ 10 ^ 12) (hm : 0 < many) (hm2 : many < 2 ^ 30) : ∃ r p', m_law_draw_v2 (p, .int many) = .ok (.int r, p') ∧ 0 ≤ r ∧ r < many ∧ PO (n + 1) p' := by
  obtain ⟨a, b, c, rfl, h1, h2, h3, h4, h5⟩ := h
  obtain ⟨r, q0, q2, e, r0, r1, g0, g1, g2⟩ := draw_ok (many := many) h1 ⟨h2, h3⟩ ⟨h4, by omega⟩ ⟨hm, hm2⟩
  exact ⟨r, _, e, r0, r1, q0, b, q2, rfl, g0, h2, h3, by omega, by omega⟩
theorem shuf_loop : ∀ (ds : List D) (p left : List D) (n : Int), PO n p → n + ds.length ≤ 10 ^ 12 → left.length = ds.length → left.length < 2 ^ 30 →
    ∃ ys p', lcF (fun b d => (law_shuffled_q1 b d).bind fun e => .ok ((e.2.1, e.2.2), some e.1)) ds (p, left) = .ok ((p', []), ys) ∧ ys.Perm left ∧ PO (n + ds.length) p'
  | [], p, left, n, hp, hn, hl, hs => by
    have : left = [] := List.length_eq_zero_iff.mp hl
    subst this
    exact ⟨[], p, rfl, .refl _, hp.mono (by simp)⟩
  | d :: ds, p, left, n, hp, hn, hl, hs => by
    rw [List.length_cons] at hl hn
    obtain ⟨r, p1, e1, r0, r1, hp1⟩ := drawP (many := (left.length : Int)) hp (by omega) (by omega) (by omega)
    obtain ⟨x, hx, e2, pm⟩ := popAt_int r0 r1 (by omega)
    have hlen : (left.eraseIdx r.toNat).length = ds.length := by rw [List.length_eraseIdx, if_pos (by omega)]; omega
    obtain ⟨ys, p2, e3, pm2, hp2⟩ := shuf_loop ds p1 (left.eraseIdx r.toNat) (n + 1) hp1 (by omega) hlen (by omega)
    refine ⟨x :: ys, p2, ?_, (pm2.cons x).trans pm, hp2.mono (by simp; omega)⟩
    have eq : law_shuffled_q1 (p, left) d = .ok (x, p1, left.eraseIdx r.toNat) := by
      simp [law_shuffled_q1, opLen_list, e1, e2]
    simp only [lcF, eq, Res.bind_ok, e3]
    rfl
theorem shuffled_ok {n : Int} {p xs : List D} (h : PO n p) (hn : n + xs.length ≤ 10 ^ 12) (hs : xs.length < 10 ^ 6) : ∃ ys p', m_law_shuffled (p, xs) = .ok (ys, p') ∧ ys.Perm xs ∧ PO (n + xs.length) p' := by
  have hlen : (rngD 0 (xs.length : Int)).length = xs.length := by simp [rngD]
  obtain ⟨ys, p', e, pm, hp⟩ := shuf_loop (rngD 0 (xs.length : Int)) p xs n h (by rw [hlen]; exact hn) hlen.symm (by omega)
  refine ⟨ys, p', ?_, pm, by rw [hlen] at hp; exact hp⟩
  have h1 : inR (xs.length : Int) = true := by simp [inR]; omega
  have h2 : (rngD 0 (xs.length : Int)).length ≤ sizeLine := by rw [hlen]; exact Nat.le_trans (Nat.le_of_lt hs) (by decide)
  have h3 : compS (fun b d => (law_shuffled_q1 b d).bind fun e => .ok ((e.2.1, e.2.2), some e.1)) (rngD 0 (xs.length : Int)) (p, xs) = .ok ((p', []), ys) := by unfold compS; rw [if_pos h2]; exact e
  unfold m_law_shuffled
  simp -implicitDefEqProofs only [Res.bind_ok, opList, opLen_list, intD, h1, if_true, lcTurn_t]
  rw [h3]; rfl
end PL
/-! plain laws: repr, dicts with names for keys, monadic loops -/
namespace G
open PySem L2 PyProof.Rows
/-! ### repr -/
def leafOk (x : D) : Bool := plain x && (toP x).showable && !(toP x).hasDict && decide ((toP x).depth ≤ 50) && (toP x).leavesShort 13 && decide ((toP x).weight ≤ 500)
theorem leaf_plain {xs : List D} (h : ∀ x ∈ xs, leafOk x = true) : plainL xs = true := by
  induction xs with
  | nil => rfl
  | cons x xs ih =>
    have := h x (by simp)
    simp only [leafOk, Bool.and_eq_true] at this
    simp [plainL, this.1.1.1.1.1, ih fun y hy => h y (by simp [hy])]
theorem leaf_all {xs : List D} (h : ∀ x ∈ xs, leafOk x = true) : PyData.showableAll (toPL xs) = true ∧ PyData.hasDictAll (toPL xs) = false ∧ PyData.depthAll (toPL xs) ≤ 50 ∧ PyData.leavesShortAll 13 (toPL xs) = true ∧ PyData.weightAll (toPL xs) ≤ 501 * xs.length := by
  induction xs with
  | nil => exact ⟨rfl, rfl, by simp [toPL, PyData.depthAll], rfl, by simp [toPL, PyData.weightAll]⟩
  | cons x xs ih =>
    obtain ⟨i1, i2, i3, i4, i5⟩ := ih fun y hy => h y (by simp [hy])
    have := h x (by simp)
    simp only [leafOk, Bool.and_eq_true, decide_eq_true_eq, Bool.not_eq_true'] at this
    obtain ⟨⟨⟨⟨⟨h1, h2⟩, h3⟩, h4⟩, h5⟩, h6⟩ := this
    refine ⟨by simp [toPL, PyData.showableAll, h2, i1], by simp [toPL, PyData.hasDictAll, h3, i2], by simp only [toPL, PyData.depthAll]; omega, by simp [toPL, PyData.leavesShortAll, h5, i4], by simp only [toPL, PyData.weightAll, List.length_cons]; omega⟩
theorem repr_list {xs : List D} (h : ∀ x ∈ xs, leafOk x = true) (hn : xs.length ≤ 2000) : opRepr [.list xs] = .ok (.str (toP (.list xs)).shown) := by
  obtain ⟨i1, i2, i3, i4, i5⟩ := leaf_all h
  have h1 : plain (.list xs) = true := by simpa [plain] using leaf_plain h
  have h2 : (toP (.list xs)).showable = true := by simpa [toP, PyData.showable] using i1
  have h3 : (toP (.list xs)).depth ≤ 60 := by simp only [toP, PyData.depth]; omega
  have h4 : (toP (.list xs)).hasDict = false := by simpa [toP, PyData.hasDict] using i2
  have h5 : (toP (.list xs)).shown.length ≤ sizeLine := PyData.shown_fits (B := 13) (by decide) (by decide) (by simpa [toP, PyData.leavesShort] using i4) (by simp only [toP, PyData.weight]; omega)
  simp only [opRepr, h1, h2, h3, h4, h5, decide_true, Bool.and_true, Bool.not_false, if_true]
end G
namespace G
open PySem L2 PyProof.Rows
/-! ### dicts whose keys are names -/
def sD (es : List (Str × D)) : List (D × D) := es.map fun e => (.str e.1, e.2)
def sGet (es : List (Str × D)) (n : Str) : Option D := (es.find? fun e => e.1 == n).map (·.2)
def sPut (es : List (Str × D)) (n : Str) (v : D) : List (Str × D) := if es.any (fun e => e.1 == n) then es.map (fun e => if e.1 == n then (e.1, v) else e) else es ++ [(n, v)]
def sDel (es : List (Str × D)) (n : Str) : List (Str × D) := es.filter fun e => !(e.1 == n)
theorem kEq_str (a n : Str) : kEq (.str a) (.inr n) = (a == n) := by simp [kEq, keyOf, BEq.beq]
theorem sD_get (es : List (Str × D)) (n : Str) : dGet (sD es) (.inr n) = sGet es n := by
  unfold dGet sGet sD
  rw [List.find?_map]
  simp only [Function.comp_def, kEq_str, Option.map_map]
theorem sD_put (es : List (Str × D)) (n : Str) (v : D) : dPut (sD es) (.inr n) v = sD (sPut es n v) := by
  unfold dPut sPut sD
  simp only [List.any_map, Function.comp_def, kEq_str, kD, List.map_map]
  split
  · simp only [List.map_map]
    apply List.map_congr_left
    intro e _
    by_cases h : e.1 = n <;> simp [h, kEq_str]
  · simp
theorem sD_del (es : List (Str × D)) (n : Str) : dDel (sD es) (.inr n) = sD (sDel es n) := by
  unfold dDel sDel sD
  rw [List.filter_map]
  simp only [Function.comp_def, kEq_str]
theorem sGet_some (es : List (Str × D)) (n : Str) : (sGet es n).isSome = decide (n ∈ es.map (·.1)) := by
  unfold sGet
  rw [Option.isSome_map]
  by_cases h : n ∈ es.map (·.1)
  · rw [decide_eq_true h, List.find?_isSome]
    obtain ⟨e, he, rfl⟩ := List.mem_map.mp h
    exact ⟨e, he, by simp⟩
  · rw [decide_eq_false h]
    cases hf : es.find? (fun e => e.1 == n) with
    | none => rfl
    | some e =>
      have h1 := List.find?_some hf
      have h2 := List.mem_of_find?_eq_some hf
      exact absurd (List.mem_map.mpr ⟨e, h2, by simpa using h1⟩) h
theorem opDIn_s (es : List (Str × D)) (n : Str) : opDIn (.str n) (.dict (sD es)) = .ok (decide (n ∈ es.map (·.1))) := by
  simp only [opDIn, keyOf, sD_get, sGet_some]
theorem sD_len (es : List (Str × D)) : (sD es).length = es.length := by simp [sD]
theorem dputR_s (es : List (Str × D)) (n : Str) (v : D) (h : es.length < 10 ^ 6) : dputR (sD es) (.str n) v = .ok (sD (sPut es n v)) := by
  have : es.length < sizeLine := Nat.lt_of_lt_of_le h (by decide)
  simp only [dputR, keyOf, sD_put, sD_len, this, if_true]
theorem ddelR_s (es : List (Str × D)) (n : Str) (h : n ∈ es.map (·.1)) : ddelR (sD es) (.str n) = .ok (sD (sDel es n)) := by
  simp only [ddelR, keyOf, sD_get, sGet_some, decide_eq_true h, if_true, sD_del]
theorem opDPop_s (es : List (Str × D)) (n : Str) (h : n ∈ es.map (·.1)) : ∃ v, sGet es n = some v ∧ opDPop (sD es) [.str n] = .ok (v, sD (sDel es n)) := by
  have := sGet_some es n
  rw [decide_eq_true h] at this
  obtain ⟨v, hv⟩ := Option.isSome_iff_exists.mp this
  exact ⟨v, hv, by simp only [opDPop, keyOf, sD_get, hv, sD_del]⟩
theorem opDIx_s (es : List (Str × D)) (n : Str) : opDIx (.dict (sD es)) (.str n) = ofO (sGet es n) := by simp only [opDIx, keyOf, sD_get]
theorem sPut_keys (es : List (Str × D)) (n : Str) (v : D) : (sPut es n v).map (·.1) = if n ∈ es.map (·.1) then es.map (·.1) else es.map (·.1) ++ [n] := by
  unfold sPut
  have e : es.any (fun e => e.1 == n) = decide (n ∈ es.map (·.1)) := by
    rw [Bool.eq_iff_iff]; simp
  rw [e]
  by_cases h : n ∈ es.map (·.1)
  · simp only [h, decide_true, if_true, List.map_map]
    apply List.map_congr_left
    intro e _
    by_cases h : e.1 = n <;> simp [h]
  · simp [h]
theorem sDel_keys (es : List (Str × D)) (n : Str) : (sDel es n).map (·.1) = (es.map (·.1)).filter fun m => !(m == n) := by
  unfold sDel
  rw [List.filter_map]
  rfl
theorem strsOf_sD : ∀ ns : List Str, strsOf (ns.map .str) = some ns
  | [] => rfl
  | n :: ns => by simp [strsOf, strsOf_sD ns]
theorem intsOf_ints : ∀ ns : List Int, intsOf (ns.map .int) = some ns
  | [] => rfl
  | n :: ns => by simp [intsOf, intsOf_ints ns]
theorem opSorted_sD (es : List (Str × D)) (h : es.length < 64) : opSorted [.dict (sD es)] = .ok ((srtS (es.map (·.1))).map .str) := by
  have : (sD es).map (·.1) = (es.map (·.1)).map .str := by simp [sD]
  simp only [opSorted, this, strsOf_sD, List.length_map, h, if_true]
/-- an entry put anew goes to the end, up to order -/
theorem sPut_perm (es : List (Str × D)) (n : Str) (v : D) (h : (es.map (·.1)).Nodup) : (sPut es n v).Perm (sDel es n ++ [(n, v)]) := by
  induction es with
  | nil => exact .refl _
  | cons e es ih =>
    have h' : e.1 ∉ es.map (·.1) ∧ (es.map (·.1)).Nodup := by simpa using h
    have ih := ih h'.2
    unfold sPut sDel at ih ⊢
    by_cases hn : e.1 == n
    · have hn' : e.1 = n := by simpa using hn
      have hf : es.any (fun e => e.1 == n) = false := by
        rw [Bool.eq_false_iff]; intro hc
        obtain ⟨x, hx, hx2⟩ := List.any_eq_true.mp hc
        exact h'.1 (List.mem_map.mpr ⟨x, hx, (by simpa using hx2 : x.1 = n).trans hn'.symm⟩)
      have hm : es.map (fun e => if e.1 == n then (e.1, v) else e) = es := by
        conv => rhs; rw [← List.map_id es]
        apply List.map_congr_left
        intro x hx
        have : (x.1 == n) = false := by
          rw [Bool.eq_false_iff]; intro hc
          exact Bool.noConfusion ((List.any_eq_true.mpr ⟨x, hx, hc⟩ : es.any (fun e => e.1 == n) = true).symm.trans hf)
        simp [this]
      have hfl : es.filter (fun e => !(e.1 == n)) = es := by
        rw [List.filter_eq_self]
        intro x hx
        have : (x.1 == n) = false := by
          rw [Bool.eq_false_iff]; intro hc
          exact Bool.noConfusion ((List.any_eq_true.mpr ⟨x, hx, hc⟩ : es.any (fun e => e.1 == n) = true).symm.trans hf)
        simp [this]
      simp only [List.any_cons, hn, Bool.true_or, if_true, List.map_cons, hm, List.filter_cons, Bool.not_true, Bool.false_eq_true, if_false, hfl]
      rw [hn']
      exact (List.perm_append_comm (l₁ := [(n, v)]) (l₂ := es))
    · simp only [List.any_cons, hn, Bool.false_or, List.map_cons, Bool.false_eq_true, if_false, List.filter_cons, Bool.not_false, if_true, List.cons_append, Bool.not_eq_true] at ih ⊢
      split at ih
      · rename_i hc; simp only [hc, if_true]; exact ih.cons e
      · rename_i hc; simp only [hc, if_false]; exact ih.cons e
end G
/-! plain laws: loops -/
namespace G
open PySem L2 PyProof.Rows
theorem lcM_ok {α : Type} {f : D → Res D} {i o : α → D} : ∀ {xs : List α}, (∀ x ∈ xs, f (i x) = .ok (o x)) → lcM f (xs.map i) = .ok (xs.map o)
  | [], _ => rfl
  | x :: xs, h => by
    simp -implicitDefEqProofs only [List.map_cons, lcM, h x (List.mem_cons_self ..), lcM_ok fun y hy => h y (List.mem_cons_of_mem _ hy), Res.bind_ok, Res.map]
theorem compM_ok {α : Type} {f : D → Res D} {i o : α → D} {xs : List α} (h : ∀ x ∈ xs, f (i x) = .ok (o x)) (hn : xs.length ≤ 10 ^ 6) : compM f (xs.map i) = .ok (xs.map o) := by
  unfold compM
  rw [if_pos (by rw [List.length_map]; exact Nat.le_trans hn (by decide)), lcM_ok h]
theorem lcP_ok {α : Type} {f : D → Res (Option D)} {i o : α → D} {p : α → Bool} : ∀ {xs : List α}, (∀ x ∈ xs, f (i x) = .ok (if p x then some (o x) else none)) → lcP f (xs.map i) = .ok ((xs.filter p).map o)
  | [], _ => rfl
  | x :: xs, h => by
    have h1 := h x (List.mem_cons_self ..)
    have h2 := lcP_ok (f := f) (i := i) (o := o) (p := p) (xs := xs) fun y hy => h y (List.mem_cons_of_mem _ hy)
    rw [List.map_cons, lcP, h1, h2]
    by_cases hp : p x = true
    · simp [hp]
    · simp [hp]
theorem compO_ok {α : Type} {f : D → Res (Option D)} {i o : α → D} {p : α → Bool} {xs : List α} (h : ∀ x ∈ xs, f (i x) = .ok (if p x then some (o x) else none)) (hn : xs.length ≤ 10 ^ 6) : compO f (xs.map i) = .ok ((xs.filter p).map o) := by
  unfold compO
  rw [if_pos (by rw [List.length_map]; exact Nat.le_trans hn (by decide)), lcP_ok h]
theorem foldR_ok {α β S : Type} {f : β → D → Res β} {i : α → D} {emb : S → β} {step : S → α → S} : ∀ {xs : List α} {s : S}, (∀ s, ∀ x ∈ xs, f (emb s) (i x) = .ok (emb (step s x))) → foldR f (xs.map i) (emb s) = .ok (emb (xs.foldl step s))
  | [], _, _ => rfl
  | x :: xs, s, h => by
    rw [List.map_cons, foldR, h s x (List.mem_cons_self ..), Res.bind_ok, List.foldl_cons]
    exact foldR_ok fun s y hy => h s y (List.mem_cons_of_mem _ hy)
/-- a loop with an invariant over the lines done -/
theorem foldR_inv' {β : Type} {f : β → D → Res β} {I : List D → β → Prop} : ∀ (xs done : List D) (b : β), I done b → (∀ d1 x d2 b, done ++ xs = d1 ++ x :: d2 → done.length ≤ d1.length → I d1 b → ∃ b', f b x = .ok b' ∧ I (d1 ++ [x]) b') → ∃ b', foldR f xs b = .ok b' ∧ I (done ++ xs) b'
  | [], done, b, h, _ => ⟨b, rfl, by simpa using h⟩
  | x :: xs, done, b, h, st => by
    obtain ⟨b1, e1, h1⟩ := st done x xs b rfl (Nat.le_refl _) h
    obtain ⟨b2, e2, h2⟩ := foldR_inv' (f := f) (I := I) xs (done ++ [x]) b1 h1 (fun d1 y d2 b e l => st d1 y d2 b (by simpa using e) (by simp at l; omega))
    exact ⟨b2, by rw [foldR, e1, Res.bind_ok, e2], by simpa using h2⟩
theorem foldR_inv {β : Type} {f : β → D → Res β} (I : List D → β → Prop) {xs : List D} {b : β} (h : I [] b) (st : ∀ d1 x d2 b, xs = d1 ++ x :: d2 → I d1 b → ∃ b', f b x = .ok b' ∧ I (d1 ++ [x]) b') : ∃ b', foldR f xs b = .ok b' ∧ I xs b' := by
  obtain ⟨b', e, h'⟩ := foldR_inv' (f := f) (I := I) xs [] b h (fun d1 x d2 b e _ => st d1 x d2 b (by simpa using e))
  exact ⟨b', e, by simpa using h'⟩
theorem forD_inv' {β ε : Type} {f : β → D → Res (β ⊕ ε)} {I : List D → β → Prop} : ∀ (xs done : List D) (b : β), I done b → (∀ d1 x d2 b, done ++ xs = d1 ++ x :: d2 → I d1 b → ∃ b', f b x = .ok (.inl b') ∧ I (d1 ++ [x]) b') → ∃ b', forD f xs b = .ok (.inl b') ∧ I (done ++ xs) b'
  | [], done, b, h, _ => ⟨b, rfl, by simpa using h⟩
  | x :: xs, done, b, h, st => by
    obtain ⟨b1, e1, h1⟩ := st done x xs b rfl h
    obtain ⟨b2, e2, h2⟩ := forD_inv' (f := f) (I := I) xs (done ++ [x]) b1 h1 (fun d1 y d2 b e => st d1 y d2 b (by simpa using e))
    exact ⟨b2, by rw [forD, e1]; exact e2, by simpa using h2⟩
theorem forD_inv {β ε : Type} {f : β → D → Res (β ⊕ ε)} (I : List D → β → Prop) {xs : List D} {b : β} (h : I [] b) (st : ∀ d1 x d2 b, xs = d1 ++ x :: d2 → I d1 b → ∃ b', f b x = .ok (.inl b') ∧ I (d1 ++ [x]) b') : ∃ b', forD f xs b = .ok (.inl b') ∧ I xs b' := by
  obtain ⟨b', e, h'⟩ := forD_inv' (f := f) (I := I) xs [] b h (fun d1 x d2 b e => st d1 x d2 b (by simpa using e))
  exact ⟨b', e, by simpa using h'⟩
/-- a loop that keeps nothing -/
theorem forD_unit {ε : Type} {f : Unit → D → Res (Unit ⊕ ε)} {xs : List D} (h : ∀ x ∈ xs, f () x = .ok (.inl ())) : forD f xs () = .ok (.inl ()) := by
  induction xs with
  | nil => rfl
  | cons x xs ih =>
    rw [forD, h x (List.mem_cons_self ..)]
    exact ih fun y hy => h y (List.mem_cons_of_mem _ hy)
theorem inR_small {i : Int} (h0 : 0 ≤ i) (h1 : i ≤ 10 ^ 6) : inR i = true := by simp [inR]; omega
theorem mem_rngD {x : D} {lo hi : Int} (h : x ∈ rngD lo hi) : ∃ i : Int, x = .int i ∧ lo ≤ i ∧ i < hi := by
  obtain ⟨k, hk, rfl⟩ := List.mem_map.mp h
  have := List.mem_range.mp hk
  exact ⟨_, rfl, by omega, by omega⟩
theorem enumD_len (xs : List D) : (enumD xs).length = xs.length := by simp [enumD]
theorem all_bls {α : Type} {xs : List α} {f : α → Bool} : blsOf (xs.map fun x => D.bl (f x)) = some (xs.map f) := by
  induction xs with
  | nil => rfl
  | cons x xs ih => simp [blsOf, ih]
end G
/-! plain laws: comparisons of names, lists of names, lines -/
namespace G
open PySem L2 PyProof.Rows
theorem flat_strs (c : List Str) : (c.map D.str).all flatD = true := by simp [flatD]
theorem flat_ints (c : List Int) : (c.map D.int).all flatD = true := by simp [flatD]
theorem inF_str (n : Str) : ∀ c : List Str, inF (.str n) (c.map .str) = decide (n ∈ c)
  | [] => rfl
  | x :: c => by
    have ih := inF_str n c
    unfold inF at ih ⊢
    rw [List.map_cons, List.any_cons, ih]
    by_cases h : x = n
    · simp [eqF, h]
    · have h' : ¬ n = x := fun e => h e.symm
      simp [eqF, h, h']
theorem inF_int (n : Int) : ∀ c : List Int, inF (.int n) (c.map .int) = decide (n ∈ c)
  | [] => rfl
  | x :: c => by
    have ih := inF_int n c
    unfold inF at ih ⊢
    rw [List.map_cons, List.any_cons, ih]
    by_cases h : x = n
    · simp [eqF, h]
    · have h' : ¬ n = x := fun e => h e.symm
      simp [eqF, h, h']
theorem opIn_strs {n : Str} {c : List Str} : opC .In (.str n) (.list (c.map .str)) = .ok (decide (n ∈ c)) := by
  have : opC .In (.str n) (.list (c.map .str)) = if flatD (.str n) && (c.map D.str).all flatD then .ok (inF (.str n) (c.map .str)) else if sh (.str n) && sh (.list (c.map .str)) then .ok (inS (.str n) (c.map .str)) else .bad := by
    rcases n with ⟨⟨_ | ⟨x, _ | ⟨y, l⟩⟩⟩⟩ <;> rfl
  rw [this, flat_strs, inF_str]; rfl
theorem opNotIn_strs {n : Str} {c : List Str} : opC .NotIn (.str n) (.list (c.map .str)) = .ok (!decide (n ∈ c)) := by
  have : opC .NotIn (.str n) (.list (c.map .str)) = if flatD (.str n) && (c.map D.str).all flatD then .ok (!inF (.str n) (c.map .str)) else if sh (.str n) && sh (.list (c.map .str)) then .ok (!inS (.str n) (c.map .str)) else .bad := by
    rcases n with ⟨⟨_ | ⟨x, _ | ⟨y, l⟩⟩⟩⟩ <;> rfl
  rw [this, flat_strs, inF_str]; rfl
theorem opIn_ints {n : Int} {c : List Int} : opC .In (.int n) (.list (c.map .int)) = .ok (decide (n ∈ c)) := by
  have : opC .In (.int n) (.list (c.map .int)) = if flatD (.int n) && (c.map D.int).all flatD then .ok (inF (.int n) (c.map .int)) else if sh (.int n) && sh (.list (c.map .int)) then .ok (inS (.int n) (c.map .int)) else .bad := rfl
  rw [this, flat_ints, inF_int]; rfl
/-! ### == of data without dicts, bools beside ints, or raw things -/
mutual
def exact : D → Bool
  | .non => true
  | .bl _ => false
  | .int _ => true
  | .str _ => true
  | .list xs => exactL xs
  | .tup xs => exactL xs
  | .dict _ => false
  | .raw _ => false
def exactL : List D → Bool
  | [] => true
  | d :: ds => exact d && exactL ds
end
mutual
theorem eqv_exact : ∀ a b : D, exact a = true → exact b = true → (PyData.eqv (toP a) (toP b) = true ↔ a = b)
  | .non, b, _, hb => by cases b <;> simp_all [toP, PyData.eqv, exact]
  | .int i, b, _, hb => by cases b <;> simp_all [toP, PyData.eqv, exact]
  | .str i, b, _, hb => by cases b <;> simp_all [toP, PyData.eqv, exact]
  | .list xs, b, ha, hb => by
    cases b <;> simp_all [toP, PyData.eqv, exact]
    exact eqvL_exact xs _ ha hb
  | .tup xs, b, ha, hb => by
    cases b <;> simp_all [toP, PyData.eqv, exact]
    exact eqvL_exact xs _ ha hb
  | .bl _, _, ha, _ => by simp [exact] at ha
  | .dict _, _, ha, _ => by simp [exact] at ha
  | .raw _, _, ha, _ => by simp [exact] at ha
theorem eqvL_exact : ∀ a b : List D, exactL a = true → exactL b = true → (PyData.eqvAll (toPL a) (toPL b) = true ↔ a = b)
  | [], b, _, hb => by cases b <;> simp_all [toPL, PyData.eqvAll]
  | x :: xs, [], _, hb => by simp [toPL, PyData.eqvAll]
  | x :: xs, y :: ys, ha, hb => by
    simp only [exactL, Bool.and_eq_true] at ha hb
    simp only [toPL, PyData.eqvAll, Bool.and_eq_true, eqv_exact x y ha.1 hb.1, eqvL_exact xs ys ha.2 hb.2, List.cons.injEq]
end
def okEq (a : D) : Bool := exact a && sh a
theorem eqR_exact {a b : D} (ha : okEq a = true) (hb : okEq b = true) : ∃ k, eqR a b = .ok k ∧ (k = true ↔ a = b) := by
  simp only [okEq, Bool.and_eq_true] at ha hb
  have e := eqv_exact a b ha.1 hb.1
  have hs : (sh a && sh b) = true := by rw [ha.2, hb.2]; rfl
  have key : (if sh a && sh b then Res.ok (PyData.eqv (toP a) (toP b)) else .bad) = .ok (PyData.eqv (toP a) (toP b)) := by rw [if_pos hs]
  cases a <;> cases b <;> first
    | exact ⟨_, key, e⟩
    | exact ⟨_, rfl, by simp⟩
    | exact absurd ha.1 (by simp [exact])
    | exact absurd hb.1 (by simp [exact])
theorem opC_Eq {a b : D} (ha : okEq a = true) (hb : okEq b = true) [Decidable (a = b)] : opC .Eq a b = .ok (decide (a = b)) := by
  obtain ⟨k, h1, h2⟩ := eqR_exact ha hb
  show eqR a b = _
  rw [h1]
  congr 1
  rw [Bool.eq_iff_iff, h2, decide_eq_true_iff]
theorem opC_Ne {a b : D} (ha : okEq a = true) (hb : okEq b = true) [Decidable (a = b)] : opC .NotEq a b = .ok (!decide (a = b)) := by
  obtain ⟨k, h1, h2⟩ := eqR_exact ha hb
  show (eqR a b).map _ = _
  rw [h1]
  show Res.ok (!k) = _
  congr 2
  rw [Bool.eq_iff_iff, h2, decide_eq_true_iff]
theorem exactL_all {xs : List D} (h : ∀ x ∈ xs, exact x = true) : exactL xs = true := by
  induction xs with
  | nil => rfl
  | cons x xs ih => simp [exactL, h x (by simp), ih fun y hy => h y (by simp [hy])]
theorem plainL_all {xs : List D} (h : ∀ x ∈ xs, plain x = true) : plainL xs = true := by
  induction xs with
  | nil => rfl
  | cons x xs ih => simp [plainL, h x (by simp), ih fun y hy => h y (by simp [hy])]
def leafE (x : D) : Bool := exact x && plain x && (toP x).canLay0 && decide ((toP x).depth ≤ 50)
theorem leafE_all {xs : List D} (h : ∀ x ∈ xs, leafE x = true) : exactL xs = true ∧ plainL xs = true ∧ PyData.canLayAll0 (toPL xs) = true ∧ PyData.depthAll (toPL xs) ≤ 50 := by
  induction xs with
  | nil => exact ⟨rfl, rfl, rfl, by simp [toPL, PyData.depthAll]⟩
  | cons x xs ih =>
    obtain ⟨i1, i2, i3, i4⟩ := ih fun y hy => h y (by simp [hy])
    have := h x (by simp)
    simp only [leafE, Bool.and_eq_true, decide_eq_true_eq] at this
    obtain ⟨⟨⟨h1, h2⟩, h3⟩, h4⟩ := this
    refine ⟨by simp [exactL, h1, i1], by simp [plainL, h2, i2], by simp [toPL, PyData.canLayAll0, h3, i3], by simp only [toPL, PyData.depthAll]; omega⟩
theorem okEq_list {xs : List D} (h : ∀ x ∈ xs, leafE x = true) : okEq (.list xs) = true := by
  obtain ⟨h1, h2, h3, h4⟩ := leafE_all h
  simp only [okEq, sh, exact, plain, SeqAt.shaped, toP, PyData.canLay0, PyData.depth, h1, h2, h3, Bool.true_and, decide_eq_true_eq]
  omega
theorem okEq_leaf {x : D} (h : leafE x = true) : okEq x = true := by
  simp only [leafE, Bool.and_eq_true, decide_eq_true_eq] at h
  obtain ⟨⟨⟨h1, h2⟩, h3⟩, h4⟩ := h
  simp only [okEq, sh, SeqAt.shaped, h1, h2, h3, Bool.true_and, decide_eq_true_eq]
  omega
theorem opEq_of {a b : D} {k : Bool} (ha : okEq a = true) (hb : okEq b = true) (h : k = true ↔ a = b) : opC .Eq a b = .ok k := by
  obtain ⟨k', h1, h2⟩ := eqR_exact ha hb
  show eqR a b = _
  rw [h1]
  congr 1
  rw [Bool.eq_iff_iff, h2, h]
theorem opNe_of {a b : D} {k : Bool} (ha : okEq a = true) (hb : okEq b = true) (h : k = true ↔ a = b) : opC .NotEq a b = .ok (!k) := by
  show (eqR a b).map _ = _
  have := opEq_of ha hb h
  rw [show eqR a b = .ok k from this]; rfl
theorem strs_inj {c d : List Str} : c.map D.str = d.map D.str ↔ c = d := by
  constructor
  · intro h
    induction c generalizing d with
    | nil => cases d <;> simp_all
    | cons x c ih =>
      cases d with
      | nil => cases h
      | cons y d =>
        simp only [List.map_cons, List.cons.injEq, D.str.injEq] at h
        rw [h.1, ih h.2]
  · rintro rfl; rfl
theorem leaf_strs {c : List Str} (h : ∀ m ∈ c, leafE (.str m) = true) : ∀ x ∈ c.map D.str, leafE x = true := fun y hy => by
  obtain ⟨m, hm, rfl⟩ := List.mem_map.mp hy; exact h m hm
theorem opEq_strs {c d : List Str} (hc : ∀ m ∈ c, leafE (.str m) = true) (hd : ∀ m ∈ d, leafE (.str m) = true) : opC .Eq (.list (c.map .str)) (.list (d.map .str)) = .ok (decide (c = d)) :=
  opEq_of (okEq_list (leaf_strs hc)) (okEq_list (leaf_strs hd)) (by rw [decide_eq_true_iff, ← strs_inj]; simp)
theorem opNe_strs {c d : List Str} (hc : ∀ m ∈ c, leafE (.str m) = true) (hd : ∀ m ∈ d, leafE (.str m) = true) : opC .NotEq (.list (c.map .str)) (.list (d.map .str)) = .ok (!decide (c = d)) :=
  opNe_of (okEq_list (leaf_strs hc)) (okEq_list (leaf_strs hd)) (by rw [decide_eq_true_iff, ← strs_inj]; simp)
theorem opLt_i {a b : Int} : opC .Lt (.int a) (.int b) = .ok (decide (a < b)) := rfl
theorem opLe_i {a b : Int} : opC .LtE (.int a) (.int b) = .ok (decide (a ≤ b)) := rfl
theorem opGt_i {a b : Int} : opC .Gt (.int a) (.int b) = .ok (decide (b < a)) := rfl
theorem opGe_i {a b : Int} : opC .GtE (.int a) (.int b) = .ok (decide (b ≤ a)) := rfl
theorem opEq_i {a b : Int} : opC .Eq (.int a) (.int b) = .ok (decide (a = b)) := rfl
theorem opNe_i {a b : Int} : opC .NotEq (.int a) (.int b) = .ok (!decide (a = b)) := rfl
theorem opEq_s {a b : Str} : opC .Eq (.str a) (.str b) = .ok (decide (a = b)) := rfl
theorem opNe_s {a b : Str} : opC .NotEq (.str a) (.str b) = .ok (!decide (a = b)) := rfl
theorem era_map {α β : Type} (f : α → β) : ∀ (xs : List α) (i : Nat), (xs.map f).eraseIdx i = (xs.eraseIdx i).map f
  | [], _ => rfl
  | x :: xs, 0 => rfl
  | x :: xs, i + 1 => by simp only [List.map_cons, List.eraseIdx_cons_succ, era_map f xs i]
end G
namespace PL
open PySem L2 G M
def words : List Str := [("load" : Str), ("hit" : Str), ("evict" : Str)]
def lineD (l : Str × Str) : D := .tup [.str l.1, .str l.2]
def okT : Res D → Bool
  | .ok (.bl true) => true
  | _ => false
theorem okT_eq {r : Res D} (h : okT r = true) : r = .ok (.bl true) := by
  unfold okT at h; split at h
  · rfl
  · cases h
/-- a name, as the program and the printers take it -/
def nameB (n : Str) : Bool := (words.all fun w => okT (m_is_line (lineD (w, n))) && leafOk (lineD (w, n)) && leafE (lineD (w, n))) && leafOk (.str n) && leafE (.str n) && okT (m_is_name (.str n))
theorem fin1 {w n : Str} (hw : w ∈ words) (hn : nameB n = true) : m_is_line (lineD (w, n)) = .ok (.bl true) ∧ leafOk (lineD (w, n)) = true ∧ leafOk (.str n) = true := by
  simp only [nameB, Bool.and_eq_true] at hn
  have := List.all_eq_true.mp hn.1.1.1 w hw
  simp only [Bool.and_eq_true] at this
  exact ⟨okT_eq this.1.1, this.1.2, hn.1.1.2⟩
theorem fin2 {w n : Str} (hw : w ∈ words) (hn : nameB n = true) : leafE (lineD (w, n)) = true ∧ leafE (.str n) = true ∧ m_is_name (.str n) = .ok (.bl true) := by
  simp only [nameB, Bool.and_eq_true] at hn
  have := List.all_eq_true.mp hn.1.1.1 w hw
  simp only [Bool.and_eq_true] at this
  exact ⟨this.2, hn.1.2, okT_eq hn.2⟩
theorem w_hl : (Str.ofString "hit" = Str.ofString "load") = False := by simp only [eq_iff_iff, iff_false]; decide +kernel
theorem w_el : (Str.ofString "evict" = Str.ofString "load") = False := by simp only [eq_iff_iff, iff_false]; decide +kernel
theorem w_he : (Str.ofString "hit" = Str.ofString "evict") = False := by simp only [eq_iff_iff, iff_false]; decide +kernel
theorem w_le : (Str.ofString "load" = Str.ofString "evict") = False := by simp only [eq_iff_iff, iff_false]; decide +kernel
/-! ### logs -/
def stp (c : List Str) (l : Str × Str) : Option (List Str) :=
  if nameB l.2 = true then
    if l.1 = ("load" : Str) then (if l.2 ∈ c then none else some (c ++ [l.2]))
    else if l.2 ∈ c then (if l.1 = ("hit" : Str) then some c else if l.1 = ("evict" : Str) then some (c.filter fun m => !(m == l.2)) else none) else none
  else none
def run (c : List Str) (ls : List (Str × Str)) : Option (List Str) := ls.foldlM stp c
theorem stp_cases {c d : List Str} {l : Str × Str} (h : stp c l = some d) : nameB l.2 = true ∧ ((l.1 = ("load" : Str) ∧ l.2 ∉ c ∧ d = c ++ [l.2]) ∨ (l.1 = ("hit" : Str) ∧ l.2 ∈ c ∧ d = c) ∨ (l.1 = ("evict" : Str) ∧ l.2 ∈ c ∧ d = c.filter fun m => !(m == l.2))) := by
  unfold stp at h
  split at h
  · rename_i h1
    refine ⟨h1, ?_⟩
    split at h
    · rename_i h2
      split at h
      · cases h
      · rename_i h3; cases h; exact .inl ⟨h2, h3, rfl⟩
    · split at h
      · rename_i h3
        split at h
        · rename_i h4; cases h; exact .inr (.inl ⟨h4, h3, rfl⟩)
        · split at h
          · rename_i h5; cases h; exact .inr (.inr ⟨h5, h3, rfl⟩)
          · cases h
      · cases h
  · cases h
theorem stp_word {c d : List Str} {l : Str × Str} (h : stp c l = some d) : l.1 ∈ words ∧ nameB l.2 = true := by
  obtain ⟨h1, ⟨h, _⟩ | ⟨h, _⟩ | ⟨h, _⟩⟩ := stp_cases h <;> exact ⟨by rw [h]; decide +kernel, h1⟩
theorem stp_nodup {c d : List Str} {l : Str × Str} (h : stp c l = some d) (hc : c.Nodup) : d.Nodup := by
  obtain ⟨h1, ⟨_, h2, rfl⟩ | ⟨_, _, rfl⟩ | ⟨_, _, rfl⟩⟩ := stp_cases h
  · exact List.nodup_append.mpr ⟨hc, by simp, fun a ha b hb => by rintro rfl; exact h2 (by simpa using (List.mem_singleton.mp hb) ▸ ha)⟩
  · exact hc
  · exact hc.filter _
theorem run_cons {c : List Str} {l : Str × Str} {ls : List (Str × Str)} {d : List Str} (h : run c (l :: ls) = some d) : ∃ e, stp c l = some e ∧ run e ls = some d := by
  unfold run at h ⊢
  rw [List.foldlM_cons] at h
  cases e : stp c l with
  | none => rw [e] at h; cases h
  | some x => rw [e] at h; exact ⟨x, rfl, h⟩
theorem run_app {c : List Str} {xs ys : List (Str × Str)} : run c (xs ++ ys) = (run c xs).bind fun d => run d ys := by
  unfold run; rw [List.foldlM_append]; rfl
theorem run_words {c d : List Str} {ls : List (Str × Str)} (h : run c ls = some d) : ∀ l ∈ ls, l.1 ∈ words ∧ nameB l.2 = true := by
  induction ls generalizing c with
  | nil => intro l hl; cases hl
  | cons x ls ih =>
    obtain ⟨e, h1, h2⟩ := run_cons h
    intro l hl
    cases hl with
    | head => exact stp_word h1
    | tail _ hl => exact ih h2 l hl
theorem run_nodup {c d : List Str} {ls : List (Str × Str)} (h : run c ls = some d) (hc : c.Nodup) : d.Nodup := by
  induction ls generalizing c with
  | nil => cases h; exact hc
  | cons x ls ih =>
    obtain ⟨e, h1, h2⟩ := run_cons h
    exact ih h2 (stp_nodup h1 hc)
theorem run_len {c d : List Str} {ls : List (Str × Str)} (h : run c ls = some d) : d.length ≤ c.length + ls.length := by
  induction ls generalizing c with
  | nil => cases h; simp
  | cons x ls ih =>
    obtain ⟨e, h1, h2⟩ := run_cons h
    have := ih h2
    obtain ⟨_, ⟨_, _, rfl⟩ | ⟨_, _, rfl⟩ | ⟨_, _, rfl⟩⟩ := stp_cases h1
    · simp at this ⊢; omega
    · simp at this ⊢; omega
    · have := List.length_filter_le (fun m => !(m == x.2)) c
      simp at *; omega
/-! ### what is cached -/
def cD (c : List Str) : List (D × D) := sD (c.map fun n => (n, .bl true))
theorem cD_keys (c : List Str) : (c.map fun n => (n, D.bl true)).map (·.1) = c := by simp [Function.comp_def]
theorem cD_put {c : List Str} {n : Str} (h : n ∉ c) : sPut (c.map fun n => (n, D.bl true)) n (.bl true) = (c ++ [n]).map fun n => (n, .bl true) := by
  unfold sPut
  rw [if_neg]
  · simp
  · intro hc
    obtain ⟨x, hx, hx2⟩ := List.any_eq_true.mp hc
    obtain ⟨y, hy, rfl⟩ := List.mem_map.mp hx
    exact h ((by simpa using hx2 : y = n) ▸ hy)
theorem cD_del {c : List Str} {n : Str} : sDel (c.map fun n => (n, D.bl true)) n = (c.filter fun m => !(m == n)).map fun n => (n, .bl true) := by
  unfold sDel
  rw [List.filter_map]; rfl
theorem cb_step {c d : List Str} {l : Str × Str} (h : stp c l = some d) (hl : c.length < 10 ^ 6) : cached_behind_q1 (cD c) (lineD l) = .ok (.inl (cD d)) := by
  obtain ⟨w, n⟩ := l
  have hl' : (c.map fun n => (n, D.bl true)).length < 10 ^ 6 := by simpa using hl
  obtain ⟨h1, ⟨h2, h3, rfl⟩ | ⟨h2, h3, rfl⟩ | ⟨h2, h3, rfl⟩⟩ := stp_cases h
  · simp only at h2 h3
    subst h2
    simp -implicitDefEqProofs only [cached_behind_q1, lineD, tup2, Res.bind_ok, cD, opDIn_s, cD_keys, h3, decide_false, opC, eqR, decide_true, if_true, dputR_s _ _ _ hl', cD_put h3]
    simp
  · simp only at h2 h3
    subst h2
    simp -implicitDefEqProofs only [cached_behind_q1, lineD, tup2, Res.bind_ok, cD, opDIn_s, cD_keys, h3, decide_true, opC, eqR]
    simp [w_hl, w_el, w_he]
  · simp only at h2 h3
    subst h2
    simp -implicitDefEqProofs only [cached_behind_q1, lineD, tup2, Res.bind_ok, cD, opDIn_s, cD_keys, h3, decide_true, opC, eqR, ddelR_s _ _ (by simpa using h3 : n ∈ (c.map fun n => (n, D.bl true)).map (·.1)), cD_del]
    simp [w_hl, w_el, w_he]
def logD (ls : List (Str × Str)) : List D := ls.map lineD
theorem cb_loop : ∀ {ls : List (Str × Str)} {c d : List Str}, run c ls = some d → c.length + ls.length < 10 ^ 6 → forD cached_behind_q1 (logD ls) (cD c) = .ok (.inl (cD d))
  | [], c, d, h, _ => by cases h; rfl
  | l :: ls, c, d, h, hl => by
    obtain ⟨e, h1, h2⟩ := run_cons h
    rw [List.length_cons] at hl
    have h3 : e.length ≤ c.length + 1 := run_len (ls := [l]) (by unfold run; rw [List.foldlM_cons, h1]; rfl)
    show (cached_behind_q1 (cD c) (lineD l)).bind _ = _
    rw [cb_step h1 (by omega)]
    exact cb_loop h2 (by omega)
theorem cb_ok {ls : List (Str × Str)} {d : List Str} (h : run [] ls = some d) (hl : ls.length < 64) : m_cached_behind (logD ls, .tup []) = .ok (some ((srtS d).map .str)) := by
  have h2 := run_len h
  have h1 : forD cached_behind_q1 (logD ls) [] = .ok (.inl (cD d)) := cb_loop (c := []) h (by simp only [List.length_nil]; omega)
  have h3 := opSorted_sD (d.map fun n => (n, D.bl true)) (by simp at h2 ⊢; omega)
  rw [cD_keys] at h3
  unfold m_cached_behind
  have h4 : ∀ f, compD f [] = .ok [] := fun f => rfl
  have h5 : iterD (.tup []) = .ok (.tup [], []) := rfl
  simp -implicitDefEqProofs only [Res.bind_ok, h5, h4]
  show ((forD cached_behind_q1 (logD ls) []).bind _) = _
  rw [h1]
  simp -implicitDefEqProofs only [Res.bind_ok, endR, cD, h3]
theorem is_log_ok {ls : List (Str × Str)} {d : List Str} (h : run [] ls = some d) (hl : ls.length ≤ 40) : m_is_log (logD ls) = .ok (.bl true) := by
  have h1 := cb_ok h (by omega)
  have h2 : compM is_log_q1 (logD ls) = .ok (ls.map fun _ => .bl true) := compM_ok (f := is_log_q1) (i := lineD) (o := fun _ => .bl true) (fun l hl => by
    obtain ⟨a, b⟩ := run_words h l hl
    have := (fin1 a b).1
    simp -implicitDefEqProofs only [is_log_q1, Res.bind_ok]
    rw [show lineD l = lineD (l.1, l.2) from rfl, this]; rfl) (by omega)
  have h3 : blsOf (ls.map fun _ => D.bl true) = some (ls.map fun _ => true) := all_bls (f := fun _ => true)
  have h4 : (logD ls).length = ls.length := by simp [logD]
  have h5 : isiD (.list (logD ls)) "list" = .ok true := rfl
  have h6 : ¬ (40 : Int) < (ls.length : Int) := by omega
  unfold m_is_log
  simp -implicitDefEqProofs only [Res.bind_ok, h5, truthD, Res.map, opLen_list, opGt_i, h4, decide_eq_false h6, h2, opAll, h3, h1, orR]
  simp [opC, optD]
theorem require_ok {ls : List (Str × Str)} {d : List Str} (h : run [] ls = some d) (hl : ls.length ≤ 40) : m_require_log (logD ls) = .ok () := by
  unfold m_require_log
  simp -implicitDefEqProofs only [Res.bind_ok, is_log_ok h hl, truthD, Res.map]
  rfl
theorem run_names' {c d : List Str} {ls : List (Str × Str)} (h : run c ls = some d) (hc : ∀ m ∈ c, nameB m = true) : ∀ m ∈ d, nameB m = true := by
  induction ls generalizing c with
  | nil => cases h; exact hc
  | cons x ls ih =>
    obtain ⟨e, h1, h2⟩ := run_cons h
    refine ih h2 fun m hm => ?_
    obtain ⟨h3, ⟨_, _, rfl⟩ | ⟨_, _, rfl⟩ | ⟨_, _, rfl⟩⟩ := stp_cases h1
    · rcases List.mem_append.mp hm with q | q
      · exact hc m q
      · rw [List.mem_singleton.mp q]; exact h3
    · exact hc m hm
    · exact hc m (List.mem_filter.mp hm).1
theorem run_names {d : List Str} {ls : List (Str × Str)} (h : run [] ls = some d) : ∀ m ∈ d, nameB m = true := run_names' h fun m hm => nomatch hm
end PL
namespace PL
open PySem L2 G M
theorem names_ok2 : names.all nameB = true := by kernel_rfl
theorem cutD_to {xs : List D} {k : Int} (h : 0 ≤ k) : cutD xs none (some k) = xs.take k.toNat := by
  have h1 : HT.sIx xs.length xs.length (some k) = min k.toNat xs.length := by
    simp only [HT.sIx, if_neg (Int.not_lt.mpr h)]
  have h2 : HT.sIx xs.length 0 none = 0 := rfl
  unfold cutD
  rw [h1, h2, List.drop_zero, Nat.sub_zero]
  rw [← List.take_take, List.take_length]
theorem last_ok {xs : List D} {d : D} : opIx (.list (xs ++ [d])) (.int (-1)) = .ok d := by
  have : (xs ++ [d]).length = xs.length + 1 := by simp
  have h1 : (1 : Int) ≤ (xs.length : Int) + 1 := by omega
  have h2 : (-1 + ((xs.length : Int) + 1)).toNat = xs.length := by omega
  simp [opIx, atI, ixN, this, ofO, h1, h2]
theorem erase_nodup {c : List Str} (h : c.Nodup) {i : Nat} {n : Str} (hi : c[i]? = some n) : c.eraseIdx i = c.filter fun m => !(m == n) := by
  induction c generalizing i with
  | nil => cases hi
  | cons x c ih =>
    have h' := List.nodup_cons.mp h
    match i with
    | 0 =>
      have hx : x = n := by simpa using hi
      subst hx
      rw [List.eraseIdx_cons_zero, List.filter_cons, if_neg (by simp), List.filter_eq_self.mpr]
      intro y hy
      have : y ≠ x := fun e => h'.1 (e ▸ hy)
      simpa using this
    | i + 1 =>
      have hi' : c[i]? = some n := by simpa using hi
      have : x ≠ n := fun e => h'.1 (e ▸ (List.mem_of_getElem? hi'))
      rw [List.eraseIdx_cons_succ, ih h'.2 hi', List.filter_cons, if_pos (by simp [this])]
/-- one line drawn -/
theorem log_step {ch c : List Str} {ls : List (Str × Str)} {p : List D} {n lo hi : Int} {x y z : List D} {d : D} (hch : ∀ m ∈ ch, nameB m = true) (hl : ch.length ≤ 10 ^ 4) (hne : ch ≠ []) (h : run [] ls = some c) (hc : ∀ m ∈ c, m ∈ ch) (hll : ls.length ≤ 10 ^ 4)
    (hp : PO n p) (hn : n ≤ 10 ^ 9) (h1 : 1 ≤ lo) (h2 : lo ≤ 4) (h3 : 0 ≤ hi) (h4 : hi ≤ 4) :
    ∃ p' l c', law_log_q2 (ch.map .str, x) (.int lo, y) (.int hi, z) (p, logD ls, c.map .str) d = .ok (p', logD (ls ++ [l]), c'.map .str) ∧ PO (n + 2) p' ∧ run [] (ls ++ [l]) = some c' ∧ ∀ m ∈ c', m ∈ ch := by
  have e1 : compO (law_log_q1 (p, logD ls, c.map .str)) (ch.map .str) = .ok ((ch.filter fun m => !decide (m ∈ c)).map .str) := compO_ok (fun m hm => by
    simp only [law_log_q1, Res.bind_ok, iffO, opNotIn_strs]
    by_cases hmc : m ∈ c <;> simp [hmc, Res.map]) (by omega)
  obtain ⟨r, p1, e2, r0, r1, hp1⟩ := drawP (many := lo + hi + 2) hp (by omega) (by omega) (by omega)
  have hcl : c.length ≤ 10 ^ 4 := by have := run_len h; simp at this; omega
  have hnd := run_nodup h List.nodup_nil
  have hlen : (logD ls).length < sizeLine := by simp only [logD, List.length_map]; exact Nat.lt_of_le_of_lt hll (by decide)
  have hcs : (c.map D.str).length < sizeLine := by rw [List.length_map]; exact Nat.lt_of_le_of_lt hcl (by decide)
  have st : ∀ {l : Str × Str} {c' : List Str}, stp c l = some c' → run [] (ls ++ [l]) = some c' := fun {l c'} hs => by
    rw [run_app, h]
    show run c [l] = some c'
    unfold run
    rw [List.foldlM_cons, hs]; rfl
  have lE : ∀ {m : Str}, nameB m = true → leafE (.str m) = true := fun {m} hm => (fin2 (w := ("load" : Str)) (by decide +kernel) hm).2.1
  have eE : ∀ xs : List Str, (∀ m ∈ xs, nameB m = true) → opC .Eq (.list (xs.map .str)) (.list []) = .ok (decide (xs = [])) := fun xs hx => opEq_strs (d := []) (fun m hm => lE (hx m hm)) (fun m hm => nomatch hm)
  have eN : ∀ xs : List Str, (∀ m ∈ xs, nameB m = true) → opC .NotEq (.list (xs.map .str)) (.list []) = .ok (!decide (xs = [])) := fun xs hx => opNe_strs (d := []) (fun m hm => lE (hx m hm)) (fun m hm => nomatch hm)
  have hcn : ∀ m ∈ c, nameB m = true := fun m hm => hch m (hc m hm)
  generalize hleft : (ch.filter fun m => !decide (m ∈ c)) = left at e1
  have hln : ∀ m ∈ left, m ∈ ch ∧ m ∉ c := fun m hm => by
    rw [← hleft] at hm
    simpa using List.mem_filter.mp hm
  have hll2 : left.length ≤ 10 ^ 4 := by rw [← hleft]; exact Nat.le_trans (List.length_filter_le _ _) hl
  have hlnn : ∀ m ∈ left, nameB m = true := fun m hm => hch m (hln m hm).1
  by_cases hcond : c = [] ∨ (r < lo ∧ left ≠ [])
  · have hlne : left ≠ [] := by
      rcases hcond with rfl | h
      · rw [← hleft, List.filter_eq_self.mpr (fun m hm => by simp)]; exact hne
      · exact h.2
    have hpos : 0 < left.length := List.length_pos_iff.mpr hlne
    obtain ⟨r2, p2, e3, s0, s1, hp2⟩ := drawP (many := (left.length : Int)) hp1 (by omega) (by omega) (by omega)
    obtain ⟨dd, hd, e4⟩ := opIx_int (xs := left.map D.str) s0 (by simpa using s1)
    rw [List.getElem?_map] at hd
    obtain ⟨nm, hnm, rfl⟩ := Option.map_eq_some_iff.mp hd
    have hm := List.mem_of_getElem? hnm
    refine ⟨p2, (("load" : Str), nm), c ++ [nm], ?_, hp2.mono (by omega), st ?_, ?_⟩
    · have hb : (decide (c = []) || (decide (r < lo) && !decide (left = []))) = true := by simpa using hcond
      have e5 : (orR (opC .Eq (.list (c.map .str)) (.list [])) (andR (.ok (decide (r < lo))) (opC .NotEq (.list (left.map .str)) (.list [])))) = .ok true := by
        rw [eE c hcn, eN left hlnn]
        simp only [orR, andR, Res.bind_ok]
        rcases hcond with h | ⟨h, h'⟩
        · simp [h]
        · simp [h, h']
      unfold law_log_q2
      simp -implicitDefEqProofs only [Res.bind_ok, e1, opB_add, e2, opLt_i, e5, if_true, opLen_list, List.length_map, e3, e4, append_ok' hcs, negD, last_ok, append_ok' hlen]
      simp [logD, lineD]
    · simp only [stp, hlnn nm hm, if_true, (hln nm hm).2, if_false]
    · intro m hm'
      rcases List.mem_append.mp hm' with q | q
      · exact hc m q
      · rw [List.mem_singleton.mp q]; exact (hln nm hm).1
  · have hcne : c ≠ [] := fun e => hcond (.inl e)
    have hpos : 0 < c.length := List.length_pos_iff.mpr hcne
    obtain ⟨r2, p2, e3, s0, s1, hp2⟩ := drawP (many := (c.length : Int)) hp1 (by omega) (by omega) (by omega)
    have e5 : (orR (opC .Eq (.list (c.map .str)) (.list [])) (andR (.ok (decide (r < lo))) (opC .NotEq (.list (left.map .str)) (.list [])))) = .ok false := by
      rw [eE c hcn, eN left hlnn]
      simp only [orR, andR, Res.bind_ok]
      by_cases h : r < lo
      · have : left = [] := Classical.byContradiction fun q => hcond (.inr ⟨h, q⟩)
        simp [hcne, h, this]
      · simp [hcne, h]
    by_cases hw : r < lo + hi
    · obtain ⟨dd, hd, e4⟩ := opIx_int (xs := c.map D.str) s0 (by simpa using s1)
      rw [List.getElem?_map] at hd
      obtain ⟨nm, hnm, rfl⟩ := Option.map_eq_some_iff.mp hd
      have hm := List.mem_of_getElem? hnm
      refine ⟨p2, (("hit" : Str), nm), c, ?_, hp2.mono (by omega), st ?_, hc⟩
      · unfold law_log_q2
        simp -implicitDefEqProofs only [Res.bind_ok, e1, opB_add, e2, e5, opLt_i, hw, decide_true, if_true, opLen_list, List.length_map, e3, e4, append_ok' hlen]
        simp [logD, lineD]
      · simp [stp, hcn nm hm, hm, w_hl]
    · obtain ⟨dd, hd, e4, pm⟩ := popAt_int (xs := c.map D.str) s0 (by simpa using s1) (by omega)
      rw [List.getElem?_map] at hd
      obtain ⟨nm, hnm, rfl⟩ := Option.map_eq_some_iff.mp hd
      have hm := List.mem_of_getElem? hnm
      refine ⟨p2, (("evict" : Str), nm), c.filter fun m => !(m == nm), ?_, hp2.mono (by omega), st ?_, fun m hm => hc m (List.mem_filter.mp hm).1⟩
      · unfold law_log_q2
        have hw' : decide (r < lo + hi) = false := decide_eq_false hw
        simp -implicitDefEqProofs only [Res.bind_ok, e1, opB_add, e2, e5, opLt_i, hw', opLen_list, List.length_map, e3, e4, append_ok' hlen]
        rw [era_map, erase_nodup hnd hnm]
        simp [logD, lineD]
      · have hhe : ¬ (Str.ofString "evict" = Str.ofString "hit") := by decide +kernel
        simp [stp, hcn nm hm, hm, w_el, hhe]
def strOf : D → Str
  | .str s => s
  | _ => ("" : Str)
theorem strOf_map : ∀ c : List Str, (c.map D.str).map strOf = c
  | [] => rfl
  | x :: c => by simp [strOf, Function.comp_def] 
theorem perm_strs {ys : List D} {c : List Str} (h : ys.Perm (c.map .str)) : ∃ zs : List Str, ys = zs.map .str ∧ zs.Perm c := by
  refine ⟨ys.map strOf, ?_, ?_⟩
  · rw [List.map_map]
    conv => lhs; rw [← List.map_id ys]
    apply List.map_congr_left
    intro d hd
    obtain ⟨m, _, rfl⟩ := List.mem_map.mp ((h.mem_iff).mp hd)
    rfl
  · have := h.map strOf
    rwa [strOf_map] at this
theorem rngD_len {i : Int} : (rngD 0 i).length = i.toNat := by simp [rngD]
theorem law_log_ok {n most : Int} {p : List D} (hp : PO n p) (hn : n ≤ 10 ^ 8) (h0 : 0 ≤ most) (h1 : most ≤ 1000) : ∃ ls c p', m_law_log (p, .int most) = .ok (logD ls, p') ∧ run [] ls = some c ∧ ls.length ≤ most.toNat ∧ PO (n + 10 ^ 4) p' := by
  obtain ⟨r, p1, e1, r0, r1, hp1⟩ := drawP (many := most + 1) hp (by omega) (by omega) (by omega)
  obtain ⟨ys, p2, e2, pm, hp2⟩ := shuffled_ok (xs := names.map .str) hp1 (by simp [names]; omega) (by simp [names])
  obtain ⟨zs, rfl, pz⟩ := perm_strs pm
  have hl40 : (names.map D.str).length = 40 := by simp [names]
  rw [hl40] at hp2
  obtain ⟨k, p3, e3, k0, k1, hp3⟩ := drawP (many := 3) hp2 (by omega) (by omega) (by omega)
  obtain ⟨w, hw, e4⟩ : ∃ w : Int, (1 ≤ w ∧ w ≤ 40) ∧ opIx (.list [D.int 4, D.int 8, D.int 40]) (.int k) = .ok (.int w) := by
    have : k = 0 ∨ k = 1 ∨ k = 2 := by omega
    rcases this with rfl | rfl | rfl
    · exact ⟨4, by omega, rfl⟩
    · exact ⟨8, by omega, rfl⟩
    · exact ⟨40, by omega, rfl⟩
  obtain ⟨v, p4, e5, v0, v1, hp4⟩ := drawP (many := w) hp3 (by omega) (by omega) (by omega)
  obtain ⟨lo, p5, e6, lo0, lo1, hp5⟩ := drawP (many := 4) hp4 (by omega) (by omega) (by omega)
  obtain ⟨hi, p6, e7, hi0, hi1, hp6⟩ := drawP (many := 4) hp5 (by omega) (by omega) (by omega)
  have hcut : cutD (zs.map D.str) none (some (1 + v)) = (zs.take (1 + v).toNat).map .str := by
    rw [cutD_to (by omega), List.map_take]
  have hzn : ∀ m ∈ zs.take (1 + v).toNat, nameB m = true := fun m hm => List.all_eq_true.mp names_ok2 m (pz.mem_iff.mp (List.mem_of_mem_take hm))
  have hzl : (zs.take (1 + v).toNat).length ≤ 10 ^ 4 := by
    rw [List.length_take]; omega
  have hzne : zs.take (1 + v).toNat ≠ [] := by
    have := pz.length_eq
    have h40 : names.length = 40 := rfl
    intro e
    have := congrArg List.length e
    rw [List.length_take] at this
    simp only [List.length_nil] at this
    omega
  generalize zs.take (1 + v).toNat = ch at hcut hzn hzl hzne
  obtain ⟨b, e8, ls, c, p', rfl, hp', hrun, hlen, hcc⟩ := foldR_inv (f := law_log_q2 (ch.map .str, p4) (.int (1 + lo), p5) (.int hi, p6)) (xs := rngD 0 r) (b := (p6, [], []))
    (fun d1 b => ∃ ls c p', b = (p', logD ls, c.map .str) ∧ PO (n + 50 + 2 * d1.length) p' ∧ run [] ls = some c ∧ ls.length = d1.length ∧ ∀ m ∈ c, m ∈ ch)
    ⟨[], [], p6, rfl, hp6.mono (by simp; omega), rfl, rfl, fun m hm => nomatch hm⟩
    (fun d1 x d2 b hx ⟨ls, c, p', hb, hpo, hr, hl, hcc⟩ => by
      subst hb
      have hl2 : d1.length ≤ 1000 := by
        have := congrArg List.length hx
        rw [rngD_len, List.length_append] at this
        omega
      obtain ⟨q, l, c', e, g1, g2, g3⟩ := log_step (n := n + 50 + 2 * d1.length) (lo := 1 + lo) (hi := hi) (x := p4) (y := p5) (z := p6) (d := x) hzn hzl hzne hr hcc (by omega) hpo (by omega) (by omega) (by omega) hi0 (by omega)
      exact ⟨_, e, ls ++ [l], c', q, rfl, g1.mono (by simp; omega), g2, by simp [hl], g3⟩)
  have hrl : (rngD 0 r).length = r.toNat := rngD_len
  refine ⟨ls, c, p', ?_, hrun, by omega, hp'.mono (by omega)⟩
  have hin : inR r = true := inR_small r0 (by omega)
  unfold m_law_log
  simp -implicitDefEqProofs only [Res.bind_ok, opB_add, e1, names_ok, e2, e3, e4, e5, intD, hcut, e6, e7, hin, if_true]
  rw [e8]
  rfl
end PL
namespace PL
open PySem L2 G M
/-! ### recency -/
def aft (o : List Str) (l : Str × Str) : List Str := if l.1 = ("evict" : Str) then o.filter (fun m => !(m == l.2)) else o.filter (fun m => !(m == l.2)) ++ [l.2]
def rcy (ls : List (Str × Str)) : List Str := ls.foldl aft []
theorem aft_len (o : List Str) (l : Str × Str) : (aft o l).length ≤ o.length + 1 := by
  have := List.length_filter_le (fun m => !(m == l.2)) o
  unfold aft
  split
  · omega
  · simp; omega
theorem aft_ok {o : List Str} {w n : Str} (hl : o.length ≤ 1000) : m_after_line (o.map .str, .str w, .str n) = .ok ((aft o (w, n)).map .str) := by
  have h1 : compO (after_line_q1 (o.map .str, .str w, .str n)) (o.map .str) = .ok ((o.filter fun m => !(m == n)).map .str) := compO_ok (f := after_line_q1 (o.map .str, .str w, .str n)) (i := .str) (o := .str) (p := fun m => !(m == n)) (fun x hx => by
    by_cases hxn : x = n
    · simp [after_line_q1, iffO, opC, eqR, hxn, Res.map]
    · simp [after_line_q1, iffO, opC, eqR, hxn, Res.map]) (by omega)
  have h2 : ((o.filter fun m => !(m == n)).map D.str).length + [D.str n].length ≤ sizeLine := by
    have := List.length_filter_le (fun m => !(m == n)) o
    simp only [List.length_map, List.length_singleton]
    exact Nat.le_trans (show _ ≤ 1001 by omega) (by decide)
  unfold m_after_line
  simp -implicitDefEqProofs only [Res.bind_ok]
  show (compO (after_line_q1 (o.map .str, .str w, .str n)) (o.map .str)).bind _ = _
  rw [h1]
  simp -implicitDefEqProofs only [Res.bind_ok, opC, eqR, h2, if_true, aft]
  by_cases hw : w = ("evict" : Str)
  · simp [hw]
  · simp [hw]
end PL
/-! plain laws: typed loops -/
namespace G
open PySem L2 PyProof.Rows
theorem enumD_cons (x : D) (xs : List D) : enumD (x :: xs) = .tup [.int 0, x] :: (xs.mapIdx fun i d => .tup [.int ((i + 1 : Nat) : Int), d]) := by
  simp [enumD, List.mapIdx_cons]
def enumF (k : Nat) : List D → List D
  | [] => []
  | x :: xs => .tup [.int (k : Int), x] :: enumF (k + 1) xs
theorem enumF_eq : ∀ (xs : List D) (k : Nat), (xs.mapIdx fun i d => D.tup [.int ((i + k : Nat) : Int), d]) = enumF k xs
  | [], _ => rfl
  | x :: xs, k => by
    rw [List.mapIdx_cons, enumF, Nat.zero_add]
    congr 1
    rw [← enumF_eq xs (k + 1)]
    congr 1
    funext i d
    congr 4
    omega
theorem enumD_eq (xs : List D) : enumD xs = enumF 0 xs := enumF_eq xs 0
variable {α β ε : Type}
theorem foldR_T' {f : β → D → Res β} {enc : α → D} {I : List α → β → Prop} : ∀ (xs done : List α) (b : β), I done b → (∀ l1 x l2 b, done ++ xs = l1 ++ x :: l2 → I l1 b → ∃ b', f b (enc x) = .ok b' ∧ I (l1 ++ [x]) b') → ∃ b', foldR f (xs.map enc) b = .ok b' ∧ I (done ++ xs) b'
  | [], done, b, h, _ => ⟨b, rfl, by simpa using h⟩
  | x :: xs, done, b, h, st => by
    obtain ⟨b1, e1, h1⟩ := st done x xs b rfl h
    obtain ⟨b2, e2, h2⟩ := foldR_T' (f := f) (I := I) xs (done ++ [x]) b1 h1 (fun d1 y d2 b e => st d1 y d2 b (by simpa using e))
    exact ⟨b2, by rw [List.map_cons, foldR, e1, Res.bind_ok, e2], by simpa using h2⟩
/-- a loop over told items -/
theorem foldR_T {f : β → D → Res β} {enc : α → D} (I : List α → β → Prop) {xs : List α} {b : β} (h : I [] b) (st : ∀ l1 x l2 b, xs = l1 ++ x :: l2 → I l1 b → ∃ b', f b (enc x) = .ok b' ∧ I (l1 ++ [x]) b') : ∃ b', foldR f (xs.map enc) b = .ok b' ∧ I xs b' := by
  obtain ⟨b', e, h'⟩ := foldR_T' (f := f) (I := I) xs [] b h (fun d1 x d2 b e => st d1 x d2 b (by simpa using e))
  exact ⟨b', e, by simpa using h'⟩
theorem foldR_E' {f : β → D → Res β} {enc : α → D} {I : List α → β → Prop} : ∀ (xs done : List α) (b : β), I done b → (∀ l1 x l2 b, done ++ xs = l1 ++ x :: l2 → I l1 b → ∃ b', f b (.tup [.int (l1.length : Int), enc x]) = .ok b' ∧ I (l1 ++ [x]) b') → ∃ b', foldR f (enumF done.length (xs.map enc)) b = .ok b' ∧ I (done ++ xs) b'
  | [], done, b, h, _ => ⟨b, rfl, by simpa using h⟩
  | x :: xs, done, b, h, st => by
    obtain ⟨b1, e1, h1⟩ := st done x xs b rfl h
    obtain ⟨b2, e2, h2⟩ := foldR_E' (f := f) (I := I) xs (done ++ [x]) b1 h1 (fun d1 y d2 b e => st d1 y d2 b (by simpa using e))
    rw [List.length_append, List.length_singleton] at e2
    exact ⟨b2, by rw [List.map_cons, enumF, foldR, e1, Res.bind_ok, e2], by simpa using h2⟩
/-- a loop over told items and their places -/
theorem foldR_E {f : β → D → Res β} {enc : α → D} (I : List α → β → Prop) {xs : List α} {b : β} (h : I [] b) (st : ∀ l1 x l2 b, xs = l1 ++ x :: l2 → I l1 b → ∃ b', f b (.tup [.int (l1.length : Int), enc x]) = .ok b' ∧ I (l1 ++ [x]) b') : ∃ b', foldR f (enumD (xs.map enc)) b = .ok b' ∧ I xs b' := by
  obtain ⟨b', e, h'⟩ := foldR_E' (f := f) (I := I) xs [] b h (fun d1 x d2 b e => st d1 x d2 b (by simpa using e))
  exact ⟨b', by rw [enumD_eq]; exact e, by simpa using h'⟩
theorem forD_T' {f : β → D → Res (β ⊕ ε)} {enc : α → D} {I : List α → β → Prop} : ∀ (xs done : List α) (b : β), I done b → (∀ l1 x l2 b, done ++ xs = l1 ++ x :: l2 → I l1 b → ∃ b', f b (enc x) = .ok (.inl b') ∧ I (l1 ++ [x]) b') → ∃ b', forD f (xs.map enc) b = .ok (.inl b') ∧ I (done ++ xs) b'
  | [], done, b, h, _ => ⟨b, rfl, by simpa using h⟩
  | x :: xs, done, b, h, st => by
    obtain ⟨b1, e1, h1⟩ := st done x xs b rfl h
    obtain ⟨b2, e2, h2⟩ := forD_T' (f := f) (I := I) xs (done ++ [x]) b1 h1 (fun d1 y d2 b e => st d1 y d2 b (by simpa using e))
    exact ⟨b2, by rw [List.map_cons, forD, e1]; exact e2, by simpa using h2⟩
theorem forD_T {f : β → D → Res (β ⊕ ε)} {enc : α → D} (I : List α → β → Prop) {xs : List α} {b : β} (h : I [] b) (st : ∀ l1 x l2 b, xs = l1 ++ x :: l2 → I l1 b → ∃ b', f b (enc x) = .ok (.inl b') ∧ I (l1 ++ [x]) b') : ∃ b', forD f (xs.map enc) b = .ok (.inl b') ∧ I xs b' := by
  obtain ⟨b', e, h'⟩ := forD_T' (f := f) (I := I) xs [] b h (fun d1 x d2 b e => st d1 x d2 b (by simpa using e))
  exact ⟨b', e, by simpa using h'⟩
theorem forD_E' {f : β → D → Res (β ⊕ ε)} {enc : α → D} {I : List α → β → Prop} : ∀ (xs done : List α) (b : β), I done b → (∀ l1 x l2 b, done ++ xs = l1 ++ x :: l2 → I l1 b → ∃ b', f b (.tup [.int (l1.length : Int), enc x]) = .ok (.inl b') ∧ I (l1 ++ [x]) b') → ∃ b', forD f (enumF done.length (xs.map enc)) b = .ok (.inl b') ∧ I (done ++ xs) b'
  | [], done, b, h, _ => ⟨b, rfl, by simpa using h⟩
  | x :: xs, done, b, h, st => by
    obtain ⟨b1, e1, h1⟩ := st done x xs b rfl h
    obtain ⟨b2, e2, h2⟩ := forD_E' (f := f) (I := I) xs (done ++ [x]) b1 h1 (fun d1 y d2 b e => st d1 y d2 b (by simpa using e))
    rw [List.length_append, List.length_singleton] at e2
    exact ⟨b2, by rw [List.map_cons, enumF, forD, e1]; exact e2, by simpa using h2⟩
theorem forD_E {f : β → D → Res (β ⊕ ε)} {enc : α → D} (I : List α → β → Prop) {xs : List α} {b : β} (h : I [] b) (st : ∀ l1 x l2 b, xs = l1 ++ x :: l2 → I l1 b → ∃ b', f b (.tup [.int (l1.length : Int), enc x]) = .ok (.inl b') ∧ I (l1 ++ [x]) b') : ∃ b', forD f (enumD (xs.map enc)) b = .ok (.inl b') ∧ I xs b' := by
  obtain ⟨b', e, h'⟩ := forD_E' (f := f) (I := I) xs [] b h (fun d1 x d2 b e => st d1 x d2 b (by simpa using e))
  exact ⟨b', by rw [enumD_eq]; exact e, by simpa using h'⟩
/-- a loop that may end early: the first item that ends it tells the answer -/
theorem forD_find {f : β → D → Res (β ⊕ ε)} {enc : α → D} {I : List α → β → Prop} {E : α → ε → Prop} : ∀ (xs done : List α) (b : β), I done b → (∀ l1 x l2 b, done ++ xs = l1 ++ x :: l2 → I l1 b → (∃ b', f b (enc x) = .ok (.inl b') ∧ I (l1 ++ [x]) b') ∨ ∃ e, f b (enc x) = .ok (.inr e) ∧ E x e) → (∃ b', forD f (xs.map enc) b = .ok (.inl b') ∧ I (done ++ xs) b') ∨ ∃ l1 x l2 b e, xs = l1 ++ x :: l2 ∧ I (done ++ l1) b ∧ f b (enc x) = .ok (.inr e) ∧ E x e ∧ forD f (xs.map enc) b = forD f (xs.map enc) b
  | [], done, b, h, _ => .inl ⟨b, rfl, by simpa using h⟩
  | x :: xs, done, b, h, st => by
    rcases st done x xs b rfl h with ⟨b1, e1, h1⟩ | ⟨e, e1, h1⟩
    · rcases forD_find (f := f) (I := I) (E := E) xs (done ++ [x]) b1 h1 (fun d1 y d2 b e => st d1 y d2 b (by simpa using e)) with ⟨b2, e2, h2⟩ | ⟨l1, y, l2, b2, e, q1, q2, q3, q4, _⟩
      · exact .inl ⟨b2, by rw [List.map_cons, forD, e1]; exact e2, by simpa using h2⟩
      · exact .inr ⟨x :: l1, y, l2, b2, e, by simp [q1], by simpa using q2, q3, q4, rfl⟩
    · exact .inr ⟨[], x, xs, b, e, rfl, by simpa using h, e1, h1, rfl⟩
end G
/-! plain laws: dicts from pairs -/
namespace G
open PySem L2 PyProof.Rows
theorem sPut_new {es : List (Str × D)} {n : Str} {v : D} (h : n ∉ es.map (·.1)) : sPut es n v = es ++ [(n, v)] := by
  unfold sPut
  rw [if_neg]
  intro hc
  obtain ⟨x, hx, hx2⟩ := List.any_eq_true.mp hc
  exact h (List.mem_map.mpr ⟨x, hx, by simpa using hx2⟩)
theorem kvOf_s : ∀ es : List (Str × D), kvOf (es.map fun e => .tup [.str e.1, e.2]) = some (es.map fun e => (Sum.inr e.1, e.2))
  | [] => rfl
  | e :: es => by
    simp only [List.map_cons, kvOf, keyOf, kvOf_s es]
    rfl
theorem mergeD_s : ∀ (es acc : List (Str × D)), ((acc ++ es).map (·.1)).Nodup → mergeD (sD acc) (es.map fun e => (Sum.inr e.1, e.2)) = sD (acc ++ es)
  | [], acc, _ => by simp [mergeD]
  | e :: es, acc, h => by
    have hn : e.1 ∉ acc.map (·.1) := fun hc => by
      rw [List.map_append, List.nodup_append] at h
      exact h.2.2 e.1 hc e.1 (by simp) rfl
    have ih := mergeD_s es (acc ++ [e]) (by simpa using h)
    unfold mergeD at ih ⊢
    rw [List.map_cons, List.foldl_cons, sD_put, sPut_new hn]
    simpa using ih
theorem opDict_s {es : List (Str × D)} (h : (es.map (·.1)).Nodup) : opDict [.list (es.map fun e => .tup [.str e.1, e.2])] = .ok (sD es) := by
  have := mergeD_s es [] (by simpa using h)
  simp only [opDict, kvOf_s]
  exact congrArg Res.ok (by simpa [sD] using this)
def qD (q : List (Str × Nat)) : List (Str × D) := q.map fun e => (e.1, .int (e.2 : Int))
theorem qD_keys (q : List (Str × Nat)) : (qD q).map (·.1) = q.map (·.1) := by simp [qD]
theorem qD_app (q r : List (Str × Nat)) : qD (q ++ r) = qD q ++ qD r := by simp [qD]
theorem items_sD (es : List (Str × D)) : itemsD (sD es) = es.map fun e => .tup [.str e.1, e.2] := by simp [itemsD, sD]
end G
namespace G
open PySem L2 PyProof.Rows
theorem whileR_inv' {β : Type} {cond : β → Res Bool} {body : β → Res β} (I : β → Prop) (μ : β → Nat) (hc : ∀ b, I b → ∃ c, cond b = .ok c ∧ (c = true → ∃ b', body b = .ok b' ∧ I b' ∧ μ b' < μ b)) : ∀ (n : Nat) (b : β), I b → μ b < n → ∃ b', whileR cond body n b = .ok b' ∧ I b' ∧ cond b' = .ok false
  | 0, b, _, h => absurd h (Nat.not_lt_zero _)
  | n + 1, b, hI, h => by
    obtain ⟨c, h1, h2⟩ := hc b hI
    cases c with
    | false => exact ⟨b, by simp [whileR, h1], hI, h1⟩
    | true =>
      obtain ⟨b', h3, h4, h5⟩ := h2 rfl
      obtain ⟨b2, h6, h7, h8⟩ := whileR_inv' I μ hc n b' h4 (by omega)
      exact ⟨b2, by simp [whileR, h1, h3, h6], h7, h8⟩
theorem sGet_mem {es : List (Str × D)} {n : Str} (h : n ∈ es.map (·.1)) : ∃ v, sGet es n = some v ∧ (n, v) ∈ es := by
  unfold sGet
  cases hf : es.find? (fun e => e.1 == n) with
  | none =>
    obtain ⟨e, he, rfl⟩ := List.mem_map.mp h
    have := List.find?_eq_none.mp hf e he
    simp at this
  | some e =>
    have h1 := List.find?_some hf
    have h2 := List.mem_of_find?_eq_some hf
    have h3 : e.1 = n := by simpa using h1
    exact ⟨e.2, rfl, by rw [← h3]; exact h2⟩
theorem opPop_map {α : Type} {f : α → D} {xs : List α} (h : xs ≠ []) : opPop (xs.map f) [] = .ok (f (xs.getLast h), xs.dropLast.map f) := by
  have hl : 0 < xs.length := List.length_pos_iff.mpr h
  have h1 : (xs.map f)[(xs.map f).length - 1]? = some (f (xs.getLast h)) := by
    rw [List.getElem?_map, List.length_map, List.getElem?_eq_getElem (by omega), List.getLast_eq_getElem]; rfl
  simp only [opPop, h1]
  rw [List.map_dropLast]
theorem repr_int {i : Int} (h : i.natAbs < 2 ^ 1000) : opRepr [.int i] = .ok (.str (toString i)) := by
  have := lg h (by decide)
  have : i.natAbs.log2 < 1920 := by omega
  simp only [opRepr, this, if_true]
end G
/-! plain laws: what can be shown -/
namespace G
open PySem L2 PyProof.Rows
def leafS (x : D) : Bool := plain x && (toP x).showable && !(toP x).hasDict && decide ((toP x).depth ≤ 30) && (toP x).leavesShort 13 && decide ((toP x).weight ≤ 50)
theorem leafS_int {i : Int} (h0 : 0 ≤ i) (h1 : i < 10 ^ 12) : leafS (.int i) = true := by
  have hl := lg (a := i) (k := 41) (by omega) (by decide)
  have hs : (PyData.shown (.int i)).length ≤ 13 := by
    have := toString_length_le h0 (k := 13) (by decide) (by omega)
    simpa [PyData.shown] using this
  have hw : PyData.weight (.int i) ≤ 50 := by
    show (if i == 0 then 0 else i.natAbs.log2 + 1) ≤ 50
    split <;> omega
  simp only [leafS, plain, toP, PyData.showable, PyData.hasDict, PyData.depth, PyData.leavesShort, Bool.and_eq_true, decide_eq_true_eq, Bool.not_false]
  exact ⟨⟨⟨⟨⟨trivial, by omega⟩, trivial⟩, by omega⟩, hs⟩, decide_eq_true hw⟩
theorem truth_bl {b : Bool} : truthD (.bl b) = .ok b := rfl
theorem leafS_non : leafS .non = true := by decide +kernel
theorem leafS_all {xs : List D} (h : ∀ x ∈ xs, leafS x = true) : plainL xs = true ∧ PyData.showableAll (toPL xs) = true ∧ PyData.hasDictAll (toPL xs) = false ∧ PyData.depthAll (toPL xs) ≤ 30 ∧ PyData.leavesShortAll 13 (toPL xs) = true ∧ PyData.weightAll (toPL xs) ≤ 51 * xs.length := by
  induction xs with
  | nil => exact ⟨rfl, rfl, rfl, by simp [toPL, PyData.depthAll], rfl, by simp [toPL, PyData.weightAll]⟩
  | cons x xs ih =>
    obtain ⟨i0, i1, i2, i3, i4, i5⟩ := ih fun y hy => h y (by simp [hy])
    have := h x (by simp)
    simp only [leafS, Bool.and_eq_true, decide_eq_true_eq, Bool.not_eq_true'] at this
    obtain ⟨⟨⟨⟨⟨h1, h2⟩, h3⟩, h4⟩, h5⟩, h6⟩ := this
    refine ⟨by simp [plainL, h1, i0], by simp [toPL, PyData.showableAll, h2, i1], by simp [toPL, PyData.hasDictAll, h3, i2], by simp only [toPL, PyData.depthAll]; omega, by simp [toPL, PyData.leavesShortAll, h5, i4], by simp only [toPL, PyData.weightAll, List.length_cons]; omega⟩
theorem leafOk_tupS {xs : List D} (h : ∀ x ∈ xs, leafS x = true) (hl : xs.length ≤ 8) : leafOk (.tup xs) = true := by
  obtain ⟨i0, i1, i2, i3, i4, i5⟩ := leafS_all h
  simp only [leafOk, plain, toP, PyData.showable, PyData.hasDict, PyData.depth, PyData.leavesShort, PyData.weight, Bool.and_eq_true, decide_eq_true_eq, Bool.not_eq_true']
  exact ⟨⟨⟨⟨⟨i0, i1⟩, i2⟩, by omega⟩, i4⟩, by omega⟩
theorem leafOk_listS {xs : List D} (h : ∀ x ∈ xs, leafS x = true) (hl : xs.length ≤ 8) : leafOk (.list xs) = true := by
  obtain ⟨i0, i1, i2, i3, i4, i5⟩ := leafS_all h
  simp only [leafOk, plain, toP, PyData.showable, PyData.hasDict, PyData.depth, PyData.leavesShort, PyData.weight, Bool.and_eq_true, decide_eq_true_eq, Bool.not_eq_true']
  exact ⟨⟨⟨⟨⟨i0, i1⟩, i2⟩, by omega⟩, i4⟩, by omega⟩
theorem leafOk_S {x : D} (h : leafS x = true) : leafOk x = true := by
  simp only [leafS, leafOk, Bool.and_eq_true, decide_eq_true_eq, Bool.not_eq_true'] at *
  obtain ⟨⟨⟨⟨⟨h1, h2⟩, h3⟩, h4⟩, h5⟩, h6⟩ := h
  exact ⟨⟨⟨⟨⟨h1, h2⟩, h3⟩, by omega⟩, h5⟩, by omega⟩
theorem leafOk_nat {i : Nat} (h : i < 10 ^ 12) : leafOk (.int (i : Int)) = true := leafOk_S (leafS_int (by omega) (by omega))
theorem repr_nats {xs : List Nat} (h : ∀ x ∈ xs, x < 10 ^ 12) (hn : xs.length ≤ 2000) : ∃ s, opRepr [.list (xs.map fun (j : Nat) => D.int (j : Int))] = .ok (.str s) :=
  ⟨_, repr_list (fun y hy => by
    obtain ⟨j, hj, rfl⟩ := List.mem_map.mp hy
    exact leafOk_nat (h j hj)) (by simpa using hn)⟩
end G
namespace PL
open PySem L2 G M
/-! ### histories by the rule -/
def fwF : Nat → List Str → List (Str × Str) → Option Nat
  | _, _, [] => none
  | k, o, l :: ls => if l.1 = ("evict" : Str) ∧ o.head? ≠ some l.2 then some k else fwF (k + 1) (aft o l) ls
theorem fwF_app : ∀ (ls ms : List (Str × Str)) (k : Nat) (o : List Str), fwF k o (ls ++ ms) = (fwF k o ls).or (fwF (k + ls.length) (ls.foldl aft o) ms)
  | [], ms, k, o => by simp [fwF]
  | l :: ls, ms, k, o => by
    simp only [List.cons_append, fwF]
    split
    · simp
    · rw [fwF_app ls ms (k + 1) (aft o l)]
      simp only [List.foldl_cons, List.length_cons]
      rw [show k + 1 + ls.length = k + (ls.length + 1) by omega]
theorem fwF_take {ls : List (Str × Str)} {k : Nat} {o : List Str} (h : fwF k o ls = none) (n : Nat) : fwF k o (ls.take n) = none := by
  rw [← List.take_append_drop n ls, fwF_app] at h
  exact (Option.or_eq_none_iff.mp h).1
def hits (xs : List Str) : List (Str × Str) := xs.map fun n => (("hit" : Str), n)
theorem he_ne : ¬ (("hit" : Str) = ("evict" : Str)) := by decide +kernel
theorem hl_ne : ¬ (("hit" : Str) = ("load" : Str)) := by decide +kernel
theorem el_ne : ¬ (("evict" : Str) = ("load" : Str)) := by decide +kernel
theorem le_ne : ¬ (("load" : Str) = ("evict" : Str)) := by decide +kernel
theorem fwF_hits : ∀ (xs : List Str) (k : Nat) (o : List Str), fwF k o (hits xs) = none
  | [], _, _ => rfl
  | x :: xs, k, o => by
    show (if ("hit" : Str) = ("evict" : Str) ∧ o.head? ≠ some x then some k else fwF (k + 1) (aft o (("hit" : Str), x)) (hits xs)) = none
    rw [if_neg (fun h => he_ne h.1)]
    exact fwF_hits xs _ _
theorem run_hits {c : List Str} : ∀ {xs : List Str}, (∀ x ∈ xs, x ∈ c ∧ nameB x = true) → PL.run c (hits xs) = some c
  | [], _ => rfl
  | x :: xs, h => by
    have e : stp c (("hit" : Str), x) = some c := by simp [stp, h x (by simp), hl_ne]
    show PL.run c ((("hit" : Str), x) :: hits xs) = _
    unfold PL.run
    rw [List.foldlM_cons, e]
    exact run_hits fun y hy => h y (by simp [hy])
def bump (o : List Str) (x : Str) : List Str := o.filter (fun m => !(m == x)) ++ [x]
theorem aft_hit (o : List Str) (x : Str) : aft o (("hit" : Str), x) = bump o x := by unfold aft bump; rw [if_neg he_ne]
theorem hits_fold (xs : List Str) : ∀ o : List Str, (hits xs).foldl aft o = xs.foldl bump o := by
  induction xs with
  | nil => intro o; rfl
  | cons x xs ih => intro o; show (hits xs).foldl aft (aft o (("hit" : Str), x)) = _; rw [aft_hit]; exact ih _
theorem bump_mem {o : List Str} {x m : Str} (hx : x ∈ o) : m ∈ bump o x ↔ m ∈ o := by
  unfold bump
  rw [List.mem_append, List.mem_filter, List.mem_singleton]
  by_cases h : m = x
  · subst h; simp [hx]
  · simp [h]
theorem bump_nodup {o : List Str} {x : Str} (h : o.Nodup) : (bump o x).Nodup := by
  unfold bump
  rw [List.nodup_append]
  refine ⟨h.filter _, by simp, fun a ha b hb => ?_⟩
  rw [List.mem_singleton.mp hb]
  simpa using (List.mem_filter.mp ha).2
/-- names hit one after the other, each once -/
theorem bump_all : ∀ (xs o : List Str), xs.Nodup → (∀ x ∈ xs, x ∈ o) → xs.foldl bump o = o.filter (fun m => !decide (m ∈ xs)) ++ xs
  | [], o, _, _ => by rw [List.foldl_nil, List.append_nil, List.filter_eq_self.mpr (fun m _ => by simp)]
  | x :: xs, o, hn, hx => by
    have hn' := List.nodup_cons.mp hn
    rw [List.foldl_cons, bump_all xs (bump o x) hn'.2 fun y hy => (bump_mem (hx x (by simp))).mpr (hx y (by simp [hy]))]
    unfold bump
    rw [List.filter_append, List.filter_filter]
    have h1 : [x].filter (fun m => !decide (m ∈ xs)) = [x] := by simp [hn'.1]
    rw [h1, List.append_assoc]
    congr 1
    apply List.filter_congr
    intro m _
    by_cases h1 : m = x <;> by_cases h2 : m ∈ xs <;> simp [h1, h2]
theorem idx_strs {n : Str} : ∀ {c : List Str}, n ∈ c → ∃ j, idxF (.str n) (c.map .str) = some j ∧ c.take j = c.takeWhile (fun m => !(m == n)) ∧ j < c.length
  | [], h => by cases h
  | x :: c, h => by
    by_cases hx : x = n
    · subst hx
      exact ⟨0, by simp [idxF, eqF], by simp, by simp⟩
    · have hm : n ∈ c := by
        rcases List.mem_cons.mp h with e | e
        · exact absurd e.symm hx
        · exact e
      obtain ⟨j, h1, h2, h3⟩ := idx_strs hm
      refine ⟨j + 1, ?_, ?_, by simp; omega⟩
      · simp [idxF, eqF, hx, h1]
      · simp [hx, h2]
theorem head_before {n : Str} : ∀ {o : List Str}, o.Nodup → n ∈ o → ∀ (older : List Str), older.Perm (o.takeWhile fun m => !(m == n)) → (o.filter (fun m => !decide (m ∈ older))).head? = some n
  | [], _, h, _, _ => by cases h
  | x :: o, hn, h, older, hp => by
    have hn' := List.nodup_cons.mp hn
    by_cases hx : x = n
    · subst hx
      have : older = [] := by
        have := hp
        simp at this
        exact this
      subst this; simp
    · have hm : n ∈ o := by
        rcases List.mem_cons.mp h with e | e
        · exact absurd e.symm hx
        · exact e
      have hp' : older.Perm (x :: o.takeWhile fun m => !(m == n)) := by
        rw [List.takeWhile_cons] at hp
        simpa [hx] using hp
      have hxo : x ∈ older := hp'.mem_iff.mpr (by simp)
      rw [List.filter_cons, if_neg (by simp [hxo])]
      have ih := head_before hn'.2 hm (o.takeWhile fun m => !(m == n)) (.refl _)
      have : o.filter (fun m => !decide (m ∈ older)) = o.filter (fun m => !decide (m ∈ o.takeWhile fun m => !(m == n))) := by
        apply List.filter_congr
        intro m hmo
        have hmx : m ≠ x := fun e => hn'.1 (e ▸ hmo)
        congr 1
        rw [decide_eq_decide, hp'.mem_iff, List.mem_cons]
        simp [hmx]
      rw [this]; exact ih
end PL
namespace PL
open PySem L2 G M
theorem tw_imp {α : Type} {p : α → Bool} {x : α} : ∀ {l : List α}, x ∈ l.takeWhile p → p x = true
  | [], h => by simp at h
  | y :: l, h => by
    rw [List.takeWhile_cons] at h
    split at h
    · rename_i hy
      rcases List.mem_cons.mp h with rfl | h
      · exact hy
      · exact tw_imp h
    · simp at h
theorem fresh_loop {o : List Str} {fd : List D} {x : List D} (ho : o ≠ []) (hol : o.length ≤ 10 ^ 6) : ∀ (ds : List D) (p : List D) (n : Int), PO n p → n + ds.length ≤ 10 ^ 12 →
    ∃ (fr : List Str) (p' : List D), lcF (fun b d => (law_filled_q1 (x, fd, o.map .str) b d).bind fun e => .ok (e.2, some e.1)) ds p = .ok (p', fr.map .str) ∧ (∀ m ∈ fr, m ∈ o) ∧ fr.length = ds.length ∧ PO (n + ds.length) p'
  | [], p, n, hp, _ => ⟨[], p, rfl, (by simp), rfl, hp.mono (by simp)⟩
  | d :: ds, p, n, hp, hn => by
    rw [List.length_cons] at hn
    have hpos : 0 < o.length := List.length_pos_iff.mpr ho
    obtain ⟨r, p1, e1, r0, r1, hp1⟩ := drawP (many := (o.length : Int)) hp (by omega) (by omega) (by omega)
    obtain ⟨dd, hd, e2⟩ := opIx_int (xs := o.map D.str) r0 (by simpa using r1)
    rw [List.getElem?_map] at hd
    obtain ⟨m, hm, rfl⟩ := Option.map_eq_some_iff.mp hd
    obtain ⟨fr, p2, e3, h1, h2, h3⟩ := fresh_loop (fd := fd) (x := x) ho hol ds p1 (n + 1) hp1 (by omega)
    refine ⟨m :: fr, p2, ?_, fun y hy => ?_, by simp [h2], h3.mono (by simp; omega)⟩
    · have eq : law_filled_q1 (x, fd, o.map .str) p d = .ok (.str m, p1) := by
        unfold law_filled_q1
        simp -implicitDefEqProofs only [Res.bind_ok, opLen_list, List.length_map, e1, e2]
      simp only [lcF, eq, Res.bind_ok, e3]
      rfl
    · rcases List.mem_cons.mp hy with rfl | hy
      · exact List.mem_of_getElem? hm
      · exact h1 y hy
theorem bump_loop {o : List Str} (hl : o.length ≤ 10 ^ 4) : ∀ {fr : List Str}, fr.length ≤ 100 → ∀ o', o'.length = o.length → (∀ x ∈ fr, x ∈ o') → o'.Nodup → foldR law_filled_q5 (fr.map .str) (o'.map .str) = .ok ((fr.foldl bump o').map .str) := by
  intro fr hfr
  induction fr with
  | nil => intro o' _ _ _; rfl
  | cons x fr ih =>
    intro o' ho hx hn
    have e1 : compO (law_filled_q2 (.str x)) (o'.map .str) = .ok ((o'.filter fun m => !(m == x)).map .str) := compO_ok (i := D.str) (o := D.str) (p := fun m => !(m == x)) (fun m hm => by
      unfold law_filled_q2
      simp -implicitDefEqProofs only [Res.bind_ok, opNe_s, iffO, Res.map]
      by_cases hmx : m = x <;> simp [hmx]) (by omega)
    have hfl := List.length_filter_le (fun m => !(m == x)) o'
    have hz : ((o'.filter fun m => !(m == x)).map D.str).length + [D.str x].length ≤ sizeLine := by
      rw [List.length_map]
      exact Nat.le_trans (show _ ≤ 10 ^ 5 by simp; omega) (by decide)
    have e2 : law_filled_q5 (o'.map .str) (.str x) = .ok ((bump o' x).map .str) := by
      unfold law_filled_q5
      simp -implicitDefEqProofs only [Res.bind_ok]
      rw [show compO (fun d13 => law_filled_q2 (.str x) d13) (o'.map .str) = _ from e1]
      simp -implicitDefEqProofs only [Res.bind_ok, if_pos hz]
      simp [bump]
    have hbl : (bump o' x).length = o'.length := by
      have hp : (bump o' x).Perm o' := (List.perm_ext_iff_of_nodup (bump_nodup hn) hn).mpr fun m => bump_mem (hx x (by simp))
      exact hp.length_eq
    rw [List.map_cons, foldR, e2, Res.bind_ok]
    exact ih (by simp at hfr; omega) (bump o' x) (by omega) (fun y hy => (bump_mem (hx x (by simp))).mpr (hx y (by simp [hy]))) (bump_nodup hn)
/-- a list of lines, with hit lines put in -/
inductive Ins : List (Str × Str) → List (Str × Str) → Prop
  | nil : Ins [] []
  | one (l : Str × Str) {ls hs} : Ins ls hs → Ins (ls ++ [l]) (hs ++ [l])
  | hit (n : Str) {ls hs} : Ins ls hs → Ins ls (hs ++ [(("hit" : Str), n)])
theorem Ins.hits {ls hs : List (Str × Str)} (h : Ins ls hs) : ∀ xs : List Str, Ins ls (hs ++ PL.hits xs)
  | [] => by simpa [PL.hits] using h
  | x :: xs => by
    have := Ins.hits (h.hit x) xs
    simpa [PL.hits] using this
/-- a history that is being made -/
structure Hist (ls hs : List (Str × Str)) (c o : List Str) : Prop where
  rc : PL.run [] ls = some c
  rh : PL.run [] hs = some c
  od : hs.foldl aft [] = o
  pm : o.Perm c
  rule : fwF 0 [] hs = none
  ins : Ins ls hs
theorem hist_step {ls hs : List (Str × Str)} {c o : List Str} (H : Hist ls hs c o) {w n : Str} {c' : List Str} (hs' : stp c (w, n) = some c') {fr older : List Str} (hf : ∀ x ∈ fr, x ∈ o)
    (hold : if w = ("evict" : Str) then older.Perm ((fr.foldl bump o).takeWhile fun m => !(m == n)) else older = []) :
    Hist (ls ++ [(w, n)]) (hs ++ hits (fr ++ older) ++ [(w, n)]) c' (if w = ("evict" : Str) then (fr.foldl bump o).filter (fun m => !decide (m ∈ older ++ [n])) ++ older else ((fr.foldl bump o).filter (fun m => !decide (m ∈ older ++ [n])) ++ older) ++ [n]) := by
  have hcn := run_nodup H.rc List.nodup_nil
  have hon : o.Nodup := H.pm.nodup_iff.mpr hcn
  have hnm := run_names H.rc
  have fb : ∀ (fr : List Str) (o : List Str), o.Nodup → (∀ x ∈ fr, x ∈ o) → (fr.foldl bump o).Nodup ∧ ∀ m, m ∈ fr.foldl bump o ↔ m ∈ o := fun fr => by
    induction fr with
    | nil => intro o h _; exact ⟨h, fun m => Iff.rfl⟩
    | cons x fr ih =>
      intro o h hx
      obtain ⟨h1, h2⟩ := ih (bump o x) (bump_nodup h) fun y hy => (bump_mem (hx x (by simp))).mpr (hx y (by simp [hy]))
      exact ⟨h1, fun m => (h2 m).trans (bump_mem (hx x (by simp)))⟩
  obtain ⟨b1, b2⟩ := fb fr o hon hf
  have hold2 : older.Nodup ∧ ∀ x ∈ older, x ∈ fr.foldl bump o ∧ x ≠ n := by
    split at hold
    · refine ⟨hold.nodup_iff.mpr (b1.sublist (List.takeWhile_sublist _)), fun x hx => ?_⟩
      have hx' := hold.mem_iff.mp hx
      exact ⟨(List.takeWhile_sublist _).subset hx', by simpa using tw_imp hx'⟩
    · subst hold; exact ⟨by simp, by simp⟩
  have hin : ∀ x ∈ fr ++ older, x ∈ c ∧ nameB x = true := fun x hx => by
    have : x ∈ c := by
      rcases List.mem_append.mp hx with h | h
      · exact H.pm.mem_iff.mp (hf x h)
      · exact H.pm.mem_iff.mp ((b2 x).mp (hold2.2 x h).1)
    exact ⟨this, hnm x this⟩
  have hr1 : PL.run [] (hs ++ hits (fr ++ older)) = some c := by rw [run_app, H.rh]; exact run_hits hin
  have hr2 : PL.run [] ((hs ++ hits (fr ++ older)) ++ [(w, n)]) = some c' := by
    rw [run_app, hr1]
    show PL.run c [(w, n)] = _
    unfold PL.run; rw [List.foldlM_cons, hs']; rfl
  have ho1 : (hs ++ hits (fr ++ older)).foldl aft [] = (fr.foldl bump o).filter (fun m => !decide (m ∈ older)) ++ older := by
    rw [List.foldl_append, H.od, hits_fold, List.foldl_append]
    exact bump_all older _ hold2.1 fun x hx => (hold2.2 x hx).1
  have hfil : ((fr.foldl bump o).filter (fun m => !decide (m ∈ older)) ++ older).filter (fun m => !(m == n)) = (fr.foldl bump o).filter (fun m => !decide (m ∈ older ++ [n])) ++ older := by
    rw [List.filter_append, List.filter_filter]
    congr 1
    · apply List.filter_congr
      intro m _
      by_cases h1 : m = n <;> by_cases h2 : m ∈ older <;> simp [h1, h2]
    · rw [List.filter_eq_self]
      intro m hm
      simpa using (hold2.2 m hm).2
  have ho2 : ((hs ++ hits (fr ++ older)) ++ [(w, n)]).foldl aft [] = (if w = ("evict" : Str) then (fr.foldl bump o).filter (fun m => !decide (m ∈ older ++ [n])) ++ older else ((fr.foldl bump o).filter (fun m => !decide (m ∈ older ++ [n])) ++ older) ++ [n]) := by
    rw [List.foldl_append, ho1]
    show aft _ (w, n) = _
    unfold aft
    simp only
    rw [hfil]
  have hrl : fwF 0 [] ((hs ++ hits (fr ++ older)) ++ [(w, n)]) = none := by
    rw [fwF_app, fwF_app, H.rule, fwF_hits]
    rw [ho1]
    show (none : Option Nat).or (fwF _ _ [(w, n)]) = none
    rw [Option.none_or]
    unfold fwF
    rw [if_neg]
    · rfl
    · rintro ⟨hw, hh⟩
      apply hh
      simp only at hw
      rw [if_pos hw] at hold
      have hnc : n ∈ c := by
        obtain ⟨_, ⟨h, _⟩ | ⟨h, _⟩ | ⟨_, h, _⟩⟩ := stp_cases hs'
        · exact absurd (hw.symm.trans h) el_ne
        · exact absurd (h.symm.trans hw) he_ne
        · exact h
      have hno : n ∈ fr.foldl bump o := (b2 n).mpr (H.pm.mem_iff.mpr hnc)
      have := head_before b1 hno older hold
      rw [List.head?_append, this]; rfl
  have hpm : ((fr.foldl bump o).filter (fun m => !decide (m ∈ older ++ [n])) ++ older).Perm (c.filter fun m => !(m == n)) := by
    rw [← hfil]
    refine List.Perm.filter _ ?_
    refine (List.perm_ext_iff_of_nodup ?_ hcn).mpr fun m => ?_
    · rw [List.nodup_append]
      refine ⟨b1.filter _, hold2.1, fun a ha b hb e => ?_⟩
      have := (List.mem_filter.mp ha).2
      rw [e] at this
      simp [hb] at this
    · rw [List.mem_append, List.mem_filter, b2 m, H.pm.mem_iff]
      constructor
      · rintro (⟨h, _⟩ | h)
        · exact h
        · exact H.pm.mem_iff.mp ((b2 m).mp (hold2.2 m h).1)
      · intro h
        by_cases hm : m ∈ older
        · exact .inr hm
        · exact .inl ⟨h, by simp [hm]⟩
  refine ⟨?_, hr2, ho2, ?_, hrl, (H.ins.hits _).one _⟩
  · rw [run_app, H.rc]
    show PL.run c [(w, n)] = _
    unfold PL.run; rw [List.foldlM_cons, hs']; rfl
  · obtain ⟨_, ⟨h, hni, rfl⟩ | ⟨h, hni, rfl⟩ | ⟨h, hni, rfl⟩⟩ := stp_cases hs'
    · have hw : ¬ (w = ("evict" : Str)) := fun e => el_ne (e.symm.trans h)
      rw [if_neg hw]
      refine (hpm.append_right [n]).trans ?_
      rw [List.filter_eq_self.mpr]
      intro m hm
      have : m ≠ n := fun e => hni (e ▸ hm)
      simpa using this
    · have hw : ¬ (w = ("evict" : Str)) := fun e => he_ne (h.symm.trans e)
      rw [if_neg hw]
      refine (hpm.append_right [n]).trans ?_
      refine (List.perm_ext_iff_of_nodup (by rw [List.nodup_append]; exact ⟨hcn.filter _, by simp, fun a ha b hb => by rw [List.mem_singleton.mp hb]; simpa using (List.mem_filter.mp ha).2⟩) hcn).mpr fun m => ?_
      rw [List.mem_append, List.mem_filter, List.mem_singleton]
      simp only at hni
      by_cases hm : m = n
      · subst hm; simp [hni]
      · simp [hm]
    · rw [if_pos h]; exact hpm
end PL
namespace PL
open PySem L2 G M
theorem okB {α β : Type} {x : Res α} {k : α → Res β} (Pa : α → Prop) {R : β → Prop} (h1 : ∃ a, x = .ok a ∧ Pa a) (h2 : ∀ a, Pa a → ∃ z, k a = .ok z ∧ R z) : ∃ z, x.bind k = .ok z ∧ R z := by
  obtain ⟨a, rfl, h⟩ := h1
  exact h2 a h
theorem app_ok {α : Type} {xs ys : List α} (h : xs.length + ys.length ≤ 10 ^ 6) {b c : Res (List α)} : (if xs.length + ys.length ≤ sizeLine then b else c) = b := if_pos (Nat.le_trans h (by decide))
theorem fold_bump_len : ∀ (fr : List Str) (o : List Str), o.Nodup → (∀ x ∈ fr, x ∈ o) → (fr.foldl bump o).length = o.length ∧ (fr.foldl bump o).Nodup ∧ ∀ m, m ∈ fr.foldl bump o ↔ m ∈ o
  | [], o, h, _ => ⟨rfl, h, fun m => Iff.rfl⟩
  | x :: fr, o, h, hx => by
    obtain ⟨h1, h2, h3⟩ := fold_bump_len fr (bump o x) (bump_nodup h) fun y hy => (bump_mem (hx x (by simp))).mpr (hx y (by simp [hy]))
    have hp : (bump o x).Perm o := (List.perm_ext_iff_of_nodup (bump_nodup h) h).mpr fun m => bump_mem (hx x (by simp))
    exact ⟨h1.trans hp.length_eq, h2, fun m => (h3 m).trans (bump_mem (hx x (by simp)))⟩
theorem hitsD (xs : List Str) : logD (hits xs) = xs.map fun n => D.tup [.str ("hit" : Str), .str n] := by
  simp [logD, hits, lineD]
theorem filled_step {ls hs : List (Str × Str)} {c o : List Str} (H : Hist ls hs c o) {w n : Str} {c' : List Str} (hst : stp c (w, n) = some c') (hl : ls.length ≤ 100) (hh : hs.length ≤ 200 * ls.length) {p : List D} {m : Int} (hp : PO m p) (hm : m ≤ 10 ^ 9)
    {q : (List D) × (List D) × D × (List D)} {r : Int} (hq : q.2.2.1 = .int r) :
    ∃ z, law_filled_q6 q (p, logD hs, o.map .str) (lineD (w, n)) = .ok z ∧ ∃ p' hs' o', z = (p', logD hs', o'.map .str) ∧ Hist (ls ++ [(w, n)]) hs' c' o' ∧ PO (m + 1000) p' ∧ hs'.length ≤ 200 * (ls.length + 1) := by
  have hcn := run_nodup H.rc List.nodup_nil
  have hon : o.Nodup := H.pm.nodup_iff.mpr hcn
  have hnm := run_names H.rc
  have hcl : c.length ≤ 100 := by have := run_len H.rc; simp at this; omega
  have hol : o.length ≤ 100 := by rw [H.pm.length_eq]; exact hcl
  have honm : ∀ m ∈ o, nameB m = true := fun m hm => hnm m (H.pm.mem_iff.mp hm)
  have lE : ∀ {m : Str}, nameB m = true → leafE (.str m) = true := fun {m} hm => (fin2 (w := ("load" : Str)) (by decide +kernel) hm).2.1
  have eN : opC .NotEq (.list (o.map .str)) (.list []) = .ok (!decide (o = [])) := opNe_strs (d := []) (fun m hm => lE (honm m hm)) (fun m hm => absurd hm (by simp))
  have e0 : tup2 (lineD (w, n)) = .ok (.str w, .str n) := rfl
  unfold law_filled_q6
  rw [e0]
  simp -implicitDefEqProofs only [Res.bind_ok, eN, hq]
  refine okB (Pa := fun b => ∃ fr : List Str, b.2 = fr.map .str ∧ (∀ x ∈ fr, x ∈ o) ∧ fr.length ≤ 2 ∧ PO (m + 4) b.1) ?_ ?_
  · by_cases ho : o = []
    · refine ⟨(p, []), by simp [ho, Res.bind], [], rfl, by simp, by simp, hp.mono (by omega)⟩
    · obtain ⟨r1, p1, e1, r0, r1', hp1⟩ := drawP (many := 4) hp (by omega) (by omega) (by omega)
      simp -implicitDefEqProofs only [ho, decide_false, Bool.not_false, if_true, e1, Res.bind_ok, opLt_i]
      by_cases hr : r1 < r
      · obtain ⟨r2, p2, e2, s0, s1, hp2⟩ := drawP (many := 2) hp1 (by omega) (by omega) (by omega)
        have hin : inR (1 + r2) = true := inR_small (by omega) (by omega)
        have hrl : (rngD 0 (1 + r2)).length = (1 + r2).toNat := rngD_len
        obtain ⟨fr, p3, e3, h1, h2, h3⟩ := fresh_loop (fd := logD hs) (x := p) ho (by omega) (rngD 0 (1 + r2)) p2 (m + 2) (by simpa [Int.add_assoc] using hp2) (by omega)
        refine ⟨(p3, fr.map .str), ?_, fr, rfl, h1, by omega, h3.mono (by omega)⟩
        simp -implicitDefEqProofs only [hr, decide_true, if_true, e2, Res.bind_ok, opB_add, intD, hin]
        rw [lcTurn_t]
        unfold compS
        rw [if_pos (by rw [hrl]; exact Nat.le_trans (show _ ≤ 2 by omega) (by decide))]
        rw [e3]
        rfl
      · refine ⟨(p1, []), ?_, [], rfl, by simp, by simp, hp1.mono (by omega)⟩
        simp [hr]
  rintro ⟨p1, frD⟩ ⟨fr, rfl, hf, hfl, hp1⟩
  obtain ⟨b1, b2, b3⟩ := fold_bump_len fr o hon hf
  have e4 := bump_loop (o := o) (by omega) (fr := fr) (by omega) o rfl hf hon
  simp -implicitDefEqProofs only [Res.bind_ok, e4, opEq_s]
  refine okB (Pa := fun b => ∃ older : List Str, b.2 = older.map .str ∧ (if w = ("evict" : Str) then older.Perm ((fr.foldl bump o).takeWhile fun m => !(m == n)) else older = []) ∧ PO (m + 104) b.1) ?_ ?_
  · by_cases hw : w = ("evict" : Str)
    · have hnc : n ∈ c := by
        obtain ⟨_, ⟨h, _⟩ | ⟨h, _⟩ | ⟨_, h, _⟩⟩ := stp_cases hst
        · exact absurd (hw.symm.trans h) el_ne
        · exact absurd (h.symm.trans hw) he_ne
        · exact h
      have hno : n ∈ fr.foldl bump o := (b3 n).mpr (H.pm.mem_iff.mpr hnc)
      obtain ⟨j, i1, i2, i3⟩ := idx_strs hno
      have e5 : opIndex (.list ((fr.foldl bump o).map .str)) [.str n] = .ok (.int (j : Int)) := by
        show (if flatD (D.str n) && ((fr.foldl bump o).map D.str).all flatD then (match idxF (D.str n) ((fr.foldl bump o).map D.str) with
          | some j => Res.ok (D.int (j : Int))
          | none => .bad) else .bad) = _
        rw [flat_strs, i1]; rfl
      have e6 : cutD ((fr.foldl bump o).map D.str) none (some (j : Int)) = ((fr.foldl bump o).takeWhile fun m => !(m == n)).map .str := by
        rw [cutD_to (by omega), Int.toNat_natCast, ← List.map_take, i2]
      have htl : ((fr.foldl bump o).takeWhile fun m => !(m == n)).length ≤ 100 := Nat.le_trans (List.Sublist.length_le (List.takeWhile_sublist _)) (by omega)
      obtain ⟨ys, p2, e7, pm, hp2⟩ := shuffled_ok (xs := ((fr.foldl bump o).takeWhile fun m => !(m == n)).map .str) hp1 (by rw [List.length_map]; omega) (by rw [List.length_map]; omega)
      obtain ⟨zs, rfl, pz⟩ := perm_strs pm
      refine ⟨(p2, zs.map .str), ?_, zs, rfl, by rw [if_pos hw]; exact pz, hp2.mono (by rw [List.length_map]; omega)⟩
      simp -implicitDefEqProofs only [hw, decide_true, if_true, e5, Res.bind_ok, intD, e6, e7]
    · refine ⟨(p1, []), ?_, [], rfl, by rw [if_neg hw], hp1.mono (by omega)⟩
      simp [hw]
  rintro ⟨p2, olD⟩ ⟨older, rfl, hold, hp2⟩
  have holl : older.length ≤ 100 := by
    by_cases hw : w = ("evict" : Str)
    · rw [if_pos hw] at hold
      rw [hold.length_eq]
      exact Nat.le_trans (List.Sublist.length_le (List.takeWhile_sublist _)) (by omega)
    · rw [if_neg hw] at hold; subst hold; simp
  have H2 := hist_step H hst hf hold
  have hhl : (logD hs).length ≤ 20000 := by simp only [logD, List.length_map]; omega
  have e8 : compM (fun d => law_filled_q3 d) ((fr ++ older).map .str) = .ok (logD (hits (fr ++ older))) := by
    rw [hitsD]
    exact compM_ok (i := D.str) (o := fun n => D.tup [.str ("hit" : Str), .str n]) (fun m _ => rfl) (by simp; omega)
  have hq4 : ∀ g b, law_filled_q4 (.str w, .str n) (b, older.map .str) (.str g) = .ok (if !decide (g ∈ older ++ [n]) then some (.str g) else none) := fun g b => by
    unfold law_filled_q4
    simp -implicitDefEqProofs only [Res.bind_ok]
    rw [app_ok (by simp; omega), Res.bind_ok]
    rw [show older.map D.str ++ [.str n] = (older ++ [n]).map D.str by simp, opNotIn_strs]
    by_cases hg : g ∈ older ++ [n] <;> simp [hg, iffO, Res.map]
  have e9 : compO (fun d => law_filled_q4 (D.str w, D.str n) (p2, older.map D.str) d) ((fr.foldl bump o).map .str) = .ok (((fr.foldl bump o).filter fun m => !decide (m ∈ older ++ [n])).map .str) :=
    compO_ok (i := D.str) (o := D.str) (p := fun m => !decide (m ∈ older ++ [n])) (fun m _ => hq4 m p2) (by omega)
  have hfl2 : ((fr.foldl bump o).filter fun m => !decide (m ∈ older ++ [n])).length ≤ 100 := Nat.le_trans (List.length_filter_le _ _) (by omega)
  have hhits : (logD (hits (fr ++ older))).length ≤ 102 := by simp [logD, hits]; omega
  simp -implicitDefEqProofs only [Res.bind_ok]
  rw [app_ok (by simp; omega), Res.bind_ok, ← List.map_append, e8, Res.bind_ok, app_ok (by omega), Res.bind_ok, e9, Res.bind_ok, app_ok (by simp only [List.length_map]; omega), Res.bind_ok, opNe_s, Res.bind_ok]
  refine ⟨(p2, logD (hs ++ hits (fr ++ older) ++ [(w, n)]), _), ?_, p2, _, _, rfl, H2, hp2.mono (by omega), ?_⟩
  · have hap : (logD hs ++ logD (hits (fr ++ older))).length < sizeLine := by
      rw [List.length_append]; exact Nat.lt_of_le_of_lt (show _ ≤ 30000 by omega) (by decide)
    by_cases hw : w = ("evict" : Str)
    · simp -implicitDefEqProofs only [hw, decide_true, Bool.not_true, if_true, Res.bind_ok, append_ok' hap, Bool.false_eq_true, if_false]
      simp [logD, lineD]
    · have hz : (((fr.foldl bump o).filter fun m => !decide (m ∈ older ++ [n])).map D.str ++ older.map D.str).length + [D.str n].length ≤ 10 ^ 6 := by simp only [List.length_append, List.length_map, List.length_singleton]; omega
      simp -implicitDefEqProofs only [hw, decide_false, Bool.not_false, if_true, Res.bind_ok, if_false]
      rw [app_ok hz]
      simp -implicitDefEqProofs only [Res.bind_ok, append_ok' hap]
      simp [logD, lineD]
  · simp [hits]; omega
theorem law_filled_ok {ls : List (Str × Str)} {c : List Str} (h : PL.run [] ls = some c) (hl : ls.length ≤ 100) {p : List D} {n : Int} (hp : PO n p) (hn : n ≤ 10 ^ 8) :
    ∃ hs o p', m_law_filled (p, logD ls) = .ok (logD hs, p') ∧ Hist ls hs c o ∧ hs.length ≤ 200 * ls.length ∧ PO (n + 10 ^ 6) p' := by
  obtain ⟨r, p1, e1, r0, r1, hp1⟩ := drawP (many := 3) hp (by omega) (by omega) (by omega)
  have key : ∀ (l2 l1 : List (Str × Str)) (hs : List (Str × Str)) (c1 o : List Str) (p : List D) (m : Int) (q : (List D) × (List D) × D × (List D)), q.2.2.1 = .int r → Hist l1 hs c1 o → (l1 ++ l2).length ≤ 100 → hs.length ≤ 200 * l1.length → PO m p → m + 1000 * l2.length ≤ 10 ^ 9 → PL.run c1 l2 = some c →
      ∃ hs' o' p', foldR (fun b d => law_filled_q6 q b d) (logD l2) (p, logD hs, o.map .str) = .ok (p', logD hs', o'.map .str) ∧ Hist (l1 ++ l2) hs' c o' ∧ hs'.length ≤ 200 * (l1 ++ l2).length ∧ PO (m + 1000 * l2.length) p' := by
    intro l2
    induction l2 with
    | nil =>
      intro l1 hs c1 o p m q _ H _ hh hp _ hr
      cases hr
      exact ⟨hs, o, p, rfl, by simpa using H, by simpa using hh, by simpa using hp⟩
    | cons l l2 ih =>
      intro l1 hs c1 o p m q hq H hll hh hp hm hr
      unfold PL.run at hr
      rw [List.foldlM_cons] at hr
      cases hs' : stp c1 l with
      | none => rw [hs'] at hr; cases hr
      | some c2 =>
        rw [hs'] at hr
        obtain ⟨w, n⟩ := l
        rw [List.length_append, List.length_cons] at hll
        obtain ⟨z, e, p', hs2, o2, rfl, H2, hp2, hh2⟩ := filled_step H hs' (by omega) hh hp (by simp at hm; omega) hq
        obtain ⟨hs3, o3, p3, e3, H3, hh3, hp3⟩ := ih (l1 ++ [(w, n)]) hs2 c2 o2 p' (m + 1000) q hq H2 (by simp; omega) (by simpa using hh2) hp2 (by simp at hm; omega) hr
        refine ⟨hs3, o3, p3, ?_, by simpa using H3, by simpa using hh3, hp3.mono (by simp; omega)⟩
        show foldR _ (lineD (w, n) :: logD l2) _ = _
        rw [foldR, e, Res.bind_ok]
        exact e3
  obtain ⟨hs, o, p', e, H, hh, hp'⟩ := key ls [] [] [] [] p1 (n + 1) ([], [], .int r, p1) rfl ⟨rfl, rfl, rfl, .refl _, rfl, .nil⟩ (by simpa using hl) (by simp) hp1 (by omega) h
  refine ⟨hs, o, p', ?_, by simpa using H, by simpa using hh, hp'.mono (by omega)⟩
  unfold m_law_filled
  simp -implicitDefEqProofs only [Res.bind_ok, e1]
  have e' : foldR (fun b d => law_filled_q6 ([], [], D.int r, p1) b d) (logD ls) (p1, [], []) = .ok (p', logD hs, o.map .str) := e
  rw [e']
  rfl
end PL
namespace M
open PySem L2 G
def m_names_at (a : (List D) × D) : Res ((List D)) :=
  ((((Res.ok ()).bind fun (_u1 : Unit) => (Res.ok ()).bind fun (_n2 : Unit) => ((Res.ok a.2).bind fun (a3 : D) => (intD a3).bind fun i4 => Res.ok i4).bind fun (r5 : Int) => Res.ok (cutD a.1 none (some r5))).bind fun (r6 : (List D)) => (m_cached_behind (r6, (D.tup []))).bind fun (b7 : Option (List D)) => Res.ok b7).bind fun (r8 : (Option (List D))) => (optR r8).bind fun (d9 : List D) => Res.ok d9).bind fun (r10 : (List D)) => Res.ok r10
end M
namespace M
open PySem L2 G
def m_is_integer (a : D × D × D) : Res (D) :=
  (orR ((((Res.ok a.1).bind fun (a1 : D) => isiD a1 "int").bind fun (a2 : Bool) => truthD (D.bl a2)).map (!·)) (orR (((Res.ok a.1).bind fun (a3 : D) => isiD a3 "bool").bind fun (a4 : Bool) => truthD (D.bl a4)) ((Res.ok a.1).bind fun (a5 : D) => (Res.ok a.2.1).bind fun (a6 : D) => opC .Lt a5 a6))).bind fun (a7 : Bool) => if a7 then ((Res.ok (D.bl false)).bind fun (a8 : D) => Res.ok a8).bind fun (o9 : D) => Res.ok o9 else (((orR ((Res.ok a.2.2).bind fun (a10 : D) => (Res.ok D.non).bind fun (a11 : D) => opC .Is a10 a11) ((Res.ok a.1).bind fun (a12 : D) => (Res.ok a.2.2).bind fun (a13 : D) => opC .LtE a12 a13)).map D.bl)).bind fun (a14 : D) => Res.ok a14
end M
namespace M
open PySem L2 G
def m_require_slot (a : (List D) × D) : Res (Unit) :=
  (((((Res.ok a.2).bind fun (a1 : D) => ((Res.ok (D.int 0)).bind fun (a2 : D) => ((Res.ok ()).bind fun (_u3 : Unit) => opLen [(D.list a.1)]).bind fun (a4 : D) => Res.ok (a2, a4)).bind fun (q5 : D × D) => Res.ok (a1, q5)).bind fun (q6 : D × D × D) => (m_is_integer (q6.1, q6.2.1, q6.2.2)).bind fun (b7 : D) => Res.ok b7).bind fun (r8 : D) => truthD r8).map (!·)).bind fun (a9 : Bool) => if a9 then (Res.ok (D.str "not a slot of the log")).bind fun _ => Res.exc ⟨"InvalidSlot", none⟩ else Res.ok ()
end M
namespace M
open PySem L2 G
def stay_at_q1 (a : (List D) × D × D) (d1 : D) : Res (Option D) :=
  (Res.ok ()).bind fun _ => iffO (((Res.ok ()).bind fun (_u2 : Unit) => (Res.ok d1).bind fun (a3 : D) => opIx (D.list a.1) a3).bind fun (a4 : D) => (((Res.ok (D.str "load")).bind fun (a5 : D) => (Res.ok a.2.2).bind fun (a6 : D) => Res.ok (a5, a6)).bind fun (q7 : D × D) => Res.ok (D.tup [q7.1, q7.2])).bind fun (r8 : D) => opC .Eq a4 r8) (Res.ok d1)
def m_stay_at (a : (List D) × D × D) : Res (D) :=
  ((((Res.ok a.2.1).bind fun (a9 : D) => (intD a9).bind fun i10 => if inR i10 then Res.ok i10 else Res.bad).bind fun (r11 : Int) => compO (fun (d1 : D) => stay_at_q1 a d1) (rngD 0 r11)).bind fun (a12 : List D) => opMax1 [(D.list a12)]).bind fun (a13 : D) => Res.ok a13
end M
namespace M
open PySem L2 G
def m_stay_in (a : (List D) × D × D) : Res (D) :=
  ((Res.ok ()).bind fun (_u1 : Unit) => (m_require_log a.1).bind fun (b2 : Unit) => Res.ok ()).bind fun (r3 : Unit) => (((Res.ok ()).bind fun (_u4 : Unit) => (Res.ok a.2.1).bind fun (a5 : D) => Res.ok (_u4, a5)).bind fun (q6 : Unit × D) => (m_require_slot (a.1, q6.2)).bind fun (b7 : Unit) => Res.ok ()).bind fun (r8 : Unit) => (orR ((((Res.ok a.2.2).bind fun (a9 : D) => (m_is_name a9).bind fun (b10 : D) => Res.ok b10).bind fun (r11 : D) => truthD r11).map (!·)) ((Res.ok a.2.2).bind fun (a12 : D) => (((Res.ok ()).bind fun (_u13 : Unit) => (Res.ok a.2.1).bind fun (a14 : D) => Res.ok (_u13, a14)).bind fun (q15 : Unit × D) => (m_names_at (a.1, q15.2)).bind fun (b16 : List D) => Res.ok b16).bind fun (r17 : (List D)) => opC .NotIn a12 (D.list r17))).bind fun (a18 : Bool) => if a18 then ((Res.ok (D.str "not a name in the cache")).bind fun _ => Res.exc ⟨"InvalidName", none⟩).bind (fun (o19 : Empty) => Res.ok (nomatch o19)) else (((Res.ok ()).bind fun (_u20 : Unit) => ((Res.ok a.2.1).bind fun (a21 : D) => (Res.ok a.2.2).bind fun (a22 : D) => Res.ok (a21, a22)).bind fun (q23 : D × D) => Res.ok (_u20, q23)).bind fun (q24 : Unit × D × D) => (m_stay_at (a.1, q24.2.1, q24.2.2)).bind fun (b25 : D) => Res.ok b25).bind fun (r26 : D) => Res.ok r26
end M
namespace M
open PySem L2 G
def m_names_in (a : (List D) × D) : Res ((List D)) :=
  ((Res.ok ()).bind fun (_u1 : Unit) => (m_require_log a.1).bind fun (b2 : Unit) => Res.ok ()).bind fun (r3 : Unit) => (((Res.ok ()).bind fun (_u4 : Unit) => (Res.ok a.2).bind fun (a5 : D) => Res.ok (_u4, a5)).bind fun (q6 : Unit × D) => (m_require_slot (a.1, q6.2)).bind fun (b7 : Unit) => Res.ok ()).bind fun (r8 : Unit) => (((Res.ok ()).bind fun (_u9 : Unit) => (Res.ok a.2).bind fun (a10 : D) => Res.ok (_u9, a10)).bind fun (q11 : Unit × D) => (m_names_at (a.1, q11.2)).bind fun (b12 : List D) => Res.ok b12).bind fun (r13 : (List D)) => Res.ok r13
end M
namespace PL
open PySem L2 G M
theorem run_take {ls : List (Str × Str)} {c d : List Str} (h : PL.run c ls = some d) (k : Nat) : ∃ e, PL.run c (ls.take k) = some e := by
  rw [← List.take_append_drop k ls, run_app] at h
  cases e : PL.run c (ls.take k) with
  | none => rw [e] at h; cases h
  | some x => exact ⟨x, rfl⟩
theorem logD_take (ls : List (Str × Str)) (k : Nat) : (logD ls).take k = logD (ls.take k) := by unfold logD; rw [List.map_take]
theorem logD_len (ls : List (Str × Str)) : (logD ls).length = ls.length := by simp [logD]
theorem isint_ok {v lo hi : Int} : m_is_integer (.int v, .int lo, .int hi) = .ok (.bl (decide (lo ≤ v) && decide (v ≤ hi))) := by
  unfold m_is_integer
  simp only [Res.bind_ok, isiD, truthD, Res.map, opLt_i, opLe_i, orR]
  by_cases h : v < lo
  · have : ¬ lo ≤ v := by omega
    simp [h, this, tyD, subT]
  · have : lo ≤ v := by omega
    simp [h, this, tyD, subT, opC]
theorem require_slot_ok {ls : List (Str × Str)} {k : Nat} (h : k ≤ ls.length) : m_require_slot (logD ls, .int (k : Int)) = .ok () := by
  unfold m_require_slot
  have h1 : (0 : Int) ≤ (k : Int) := by omega
  have h2 : (k : Int) ≤ (ls.length : Int) := by omega
  simp -implicitDefEqProofs only [Res.bind_ok, opLen_list, logD_len, isint_ok, decide_eq_true h1, decide_eq_true h2, Bool.and_self, truthD, Res.map, Bool.not_true]
  rfl
theorem names_at_ok {ls : List (Str × Str)} {k : Nat} {c : List Str} (h : PL.run [] (ls.take k) = some c) (hl : ls.length < 64) : m_names_at (logD ls, .int (k : Int)) = .ok ((srtS c).map .str) := by
  have h1 : cutD (logD ls) none (some (k : Int)) = logD (ls.take k) := by rw [cutD_to (by omega), Int.toNat_natCast, logD_take]
  have h2 := cb_ok h (by rw [List.length_take]; omega)
  unfold m_names_at
  simp -implicitDefEqProofs only [Res.bind_ok, intD, h1, h2, optR]
theorem names_in_ok {ls : List (Str × Str)} {k : Nat} {c d : List Str} (h0 : PL.run [] ls = some d) (h : PL.run [] (ls.take k) = some c) (hk : k ≤ ls.length) (hl : ls.length ≤ 40) : m_names_in (logD ls, .int (k : Int)) = .ok ((srtS c).map .str) := by
  unfold m_names_in
  simp -implicitDefEqProofs only [Res.bind_ok, require_ok h0 hl, require_slot_ok hk, names_at_ok h (by omega)]
/-- the line at a place is a load line of a name -/
def isLoad (ls : List (Str × Str)) (n : Str) (i : Nat) : Bool := decide (ls[i]? = some (("load" : Str), n))
theorem lineD_inj {a b : Str × Str} : lineD a = lineD b ↔ a = b := by
  constructor
  · intro h
    unfold lineD at h
    simp only [D.tup.injEq, List.cons.injEq, D.str.injEq, and_true] at h
    exact Prod.ext h.1 h.2
  · rintro rfl; rfl
theorem lineEq {l m : Str × Str} (hl : l.1 ∈ words ∧ nameB l.2 = true) (hm : m.1 ∈ words ∧ nameB m.2 = true) : opC .Eq (lineD l) (lineD m) = .ok (decide (l = m)) :=
  opEq_of (okEq_leaf (fin2 hl.1 hl.2).1) (okEq_leaf (fin2 hm.1 hm.2).1) (by rw [decide_eq_true_iff, lineD_inj])
theorem logIx {ls : List (Str × Str)} {i : Nat} (h : i < ls.length) : opIx (.list (logD ls)) (.int (i : Int)) = .ok (lineD ls[i]) := opIx_at (by unfold logD; rw [List.getElem?_map, List.getElem?_eq_getElem h]; rfl)
theorem rng_nat (k : Nat) : rngD 0 (k : Int) = (List.range k).map fun (i : Nat) => D.int (i : Int) := by
  unfold rngD
  rw [show ((k : Int) - 0).toNat = k by omega]
  apply List.map_congr_left
  intro i _
  simp
theorem stay_at_ok {ls : List (Str × Str)} {d : List Str} {k i : Nat} {n : Str} (h0 : PL.run [] ls = some d) (hk : k ≤ ls.length) (hl : ls.length ≤ 1000) (hn : nameB n = true) (hi : i < k) (hi2 : isLoad ls n i = true) (hlast : ∀ j, j < k → isLoad ls n j = true → j ≤ i) :
    m_stay_at (logD ls, .int (k : Int), .str n) = .ok (.int (i : Int)) := by
  have e1 : compO (stay_at_q1 (logD ls, .int (k : Int), .str n)) (rngD 0 (k : Int)) = .ok (((List.range k).filter (isLoad ls n)).map fun (j : Nat) => D.int (j : Int)) := by
    rw [rng_nat]
    refine compO_ok (fun j hj => ?_) (by simp; omega)
    have hjk := List.mem_range.mp hj
    have hw := run_words h0 _ (List.getElem_mem (show j < ls.length by omega))
    have e2 : opC .Eq (lineD (ls[j]'(by omega))) (.tup [.str ("load" : Str), .str n]) = .ok (decide (ls[j]'(by omega) = (("load" : Str), n))) := lineEq (m := (("load" : Str), n)) hw ⟨(by decide +kernel : ("load" : Str) ∈ words), hn⟩
    have e3 : isLoad ls n j = decide (ls[j]'(by omega) = (("load" : Str), n)) := by
      unfold isLoad
      rw [List.getElem?_eq_getElem (by omega)]
      simp
    simp -implicitDefEqProofs only [stay_at_q1, Res.bind_ok, logIx (show j < ls.length by omega), e2, iffO, e3]
    by_cases hd : ls[j]'(by omega) = (("load" : Str), n) <;> simp [hd, Res.map]
  have hmem : i ∈ (List.range k).filter (isLoad ls n) := List.mem_filter.mpr ⟨List.mem_range.mpr hi, hi2⟩
  have hall : ∀ j ∈ (List.range k).filter (isLoad ls n), j ≤ i := fun j hj => by
    obtain ⟨a, b⟩ := List.mem_filter.mp hj
    exact hlast j (List.mem_range.mp a) b
  generalize (List.range k).filter (isLoad ls n) = js at e1 hmem hall
  have e4 : opMax1 [.list (js.map fun (j : Nat) => D.int (j : Int))] = .ok (.int (i : Int)) := by
    have e5 : (js.map fun (j : Nat) => D.int (j : Int)) = (js.map fun (j : Nat) => (j : Int)).map .int := by rw [List.map_map]; rfl
    rw [e5]
    simp only [opMax1, intsOf_ints]
    cases js with
    | nil => cases hmem
    | cons j js =>
      simp only [List.map_cons]
      obtain ⟨h1, h2⟩ := foldl_max (js.map fun (j : Nat) => (j : Int)) (j : Int)
      generalize (js.map fun (j : Nat) => (j : Int)).foldl max (j : Int) = m at h1 h2
      have g1 : (i : Int) ≤ m := h2 _ (by
        rcases List.mem_cons.mp hmem with rfl | hm
        · simp
        · exact List.mem_cons_of_mem _ (List.mem_map.mpr ⟨i, hm, rfl⟩))
      have g2 : m ≤ (i : Int) := by
        rcases List.mem_cons.mp h1 with h | h
        · have := hall j (by simp); omega
        · obtain ⟨t, ht, e⟩ := List.mem_map.mp h
          have := hall t (by simp [ht]); omega
      rw [Int.le_antisymm g2 g1]
  have hin : inR (k : Int) = true := inR_small (by omega) (by omega)
  unfold m_stay_at
  simp -implicitDefEqProofs only [Res.bind_ok, intD, hin, if_true]
  rw [show compO (fun d1 => stay_at_q1 (logD ls, .int (k : Int), .str n) d1) (rngD 0 (k : Int)) = _ from e1]
  simp -implicitDefEqProofs only [Res.bind_ok, e4]
theorem srtS_mem {c : List Str} {n : Str} : n ∈ srtS c ↔ n ∈ c := (srtS_perm c).mem_iff
theorem stay_in_ok {ls : List (Str × Str)} {c d : List Str} {k i : Nat} {n : Str} (h0 : PL.run [] ls = some d) (h : PL.run [] (ls.take k) = some c) (hk : k ≤ ls.length) (hl : ls.length ≤ 40) (hn : n ∈ c) (hi : i < k) (hi2 : isLoad ls n i = true) (hlast : ∀ j, j < k → isLoad ls n j = true → j ≤ i) :
    m_stay_in (logD ls, .int (k : Int), .str n) = .ok (.int (i : Int)) := by
  have hnb := run_names h n hn
  have h1 := (fin2 (w := ("load" : Str)) (by decide +kernel) hnb).2.2
  unfold m_stay_in
  simp -implicitDefEqProofs only [Res.bind_ok, require_ok h0 hl, require_slot_ok hk, names_at_ok h (by omega), h1, truthD, Res.map, opNotIn_strs, srtS_mem, hn, decide_true, Bool.not_true, orR, stay_at_ok h0 hk (by omega) hnb hi hi2 hlast]
  rfl
end PL
namespace M
open PySem L2 G
def stays_in_q1 (b1 : (List (D × D)) × (List (D × D))) (d2 : D) : Res ((List (D × D)) × (List (D × D))) :=
  (tup12 d2).bind fun (g3 : D × D × D) => ((Res.ok g3.2.1).bind fun (a4 : D) => (Res.ok (D.str "load")).bind fun (a5 : D) => opC .Eq a4 a5).bind fun (a6 : Bool) => if a6 then (Res.ok g3.1).bind fun (a7 : D) => (Res.ok g3.2.2).bind fun (a8 : D) => (dputR b1.1 a8 a7).bind fun (r9 : List (D × D)) => (Res.ok D.non).bind fun (a10 : D) => (Res.ok g3.1).bind fun (a11 : D) => (dputR b1.2 a11 a10).bind fun (r12 : List (D × D)) => Res.ok (r9, r12) else ((Res.ok g3.2.1).bind fun (a13 : D) => (Res.ok (D.str "evict")).bind fun (a14 : D) => opC .Eq a13 a14).bind fun (a15 : Bool) => if a15 then (Res.ok g3.1).bind fun (a16 : D) => ((Res.ok ()).bind fun (_u17 : Unit) => (Res.ok g3.2.2).bind fun (a18 : D) => opDIx (D.dict b1.1) a18).bind fun (a19 : D) => (dputR b1.2 a19 a16).bind fun (r20 : List (D × D)) => Res.ok (b1.1, r20) else Res.ok (b1.1, b1.2)
def m_stays_in (a : (List D)) : Res ((List D)) :=
  (Res.ok ()).bind fun (_u21 : Unit) => (Res.ok ()).bind fun (_u22 : Unit) => (Res.ok ()).bind fun (_u23 : Unit) => (foldR (fun (b1 : (List (D × D)) × (List (D × D))) d2 => stays_in_q1 b1 d2) (enumD a) ([], [])).bind fun (b1 : (List (D × D)) × (List (D × D))) => (Res.ok (itemsD b1.2)).bind fun (a24 : List D) => Res.ok a24
end M
namespace M
open PySem L2 G
def m_stays_of (a : (List D)) : Res ((List D)) :=
  ((Res.ok ()).bind fun (_u1 : Unit) => (m_require_log a).bind fun (b2 : Unit) => Res.ok ()).bind fun (r3 : Unit) => ((Res.ok ()).bind fun (_u4 : Unit) => (m_stays_in a).bind fun (b5 : List D) => Res.ok b5).bind fun (r6 : (List D)) => Res.ok r6
end M
namespace G
/-! ### dicts whose keys are positions -/
def iD (es : List (Nat × D)) : List (D × D) := es.map fun e => (.int (e.1 : Int), e.2)
theorem kEq_nat (a n : Nat) : kEq (.int (a : Int)) (.inl (n : Int)) = (a == n) := by
  simp only [kEq, keyOf]
  by_cases h : a = n
  · simp [h]
  · have : ¬ ((a : Int) = (n : Int)) := by omega
    simp [h, this]
theorem iD_put_new {es : List (Nat × D)} {n : Nat} {v : D} (h : n ∉ es.map (·.1)) : dPut (iD es) (.inl (n : Int)) v = iD (es ++ [(n, v)]) := by
  unfold dPut iD
  rw [List.any_map, if_neg]
  · simp [kD]
  · intro hc
    obtain ⟨x, hx, hx2⟩ := List.any_eq_true.mp hc
    simp only [Function.comp_def, kEq_nat] at hx2
    exact h (List.mem_map.mpr ⟨x, hx, by simpa using hx2⟩)
theorem iD_put_old {es : List (Nat × D)} {n : Nat} {v : D} (h : n ∈ es.map (·.1)) : dPut (iD es) (.inl (n : Int)) v = iD (es.map fun e => if e.1 = n then (e.1, v) else e) := by
  unfold dPut iD
  rw [List.any_map, if_pos]
  · simp only [List.map_map]
    apply List.map_congr_left
    intro e _
    simp only [Function.comp_def, kEq_nat]
    by_cases he : e.1 = n <;> simp [he]
  · obtain ⟨e, he, rfl⟩ := List.mem_map.mp h
    exact List.any_eq_true.mpr ⟨e, he, by simp [Function.comp_def, kEq_nat]⟩
theorem iD_len (es : List (Nat × D)) : (iD es).length = es.length := by simp [iD]
theorem iD_get (es : List (Nat × D)) (n : Nat) : dGet (iD es) (.inl (n : Int)) = (es.find? fun e => e.1 == n).map (·.2) := by
  unfold dGet iD
  rw [List.find?_map]
  simp only [Function.comp_def, kEq_nat, Option.map_map]
end G
namespace PL
open PySem L2 G M
def rngN (i n : Nat) : List Nat := (List.range (n - i)).map (· + i)
theorem rngD_N (i n : Nat) : rngD (i : Int) (n : Int) = (rngN i n).map fun (j : Nat) => D.int (j : Int) := by
  unfold rngD rngN
  rw [List.map_map, show ((n : Int) - (i : Int)).toNat = n - i by omega]
  apply List.map_congr_left
  intro j _
  simp [Int.add_comm]
theorem mem_rngN {i n j : Nat} : j ∈ rngN i n ↔ i ≤ j ∧ j < n := by
  unfold rngN
  rw [List.mem_map]
  constructor
  · rintro ⟨t, ht, rfl⟩
    have := List.mem_range.mp ht
    omega
  · rintro ⟨h1, h2⟩
    exact ⟨j - i, List.mem_range.mpr (by omega), by omega⟩
theorem rngN_succ {i n : Nat} (h : i ≤ n) : rngN i (n + 1) = rngN i n ++ [n] := by
  unfold rngN
  rw [show n + 1 - i = (n - i) + 1 by omega, List.range_succ, List.map_append]
  simp; omega
theorem rngN_cons {i n : Nat} (h : i < n) : rngN i n = i :: rngN (i + 1) n := by
  unfold rngN
  rw [show n - i = (n - (i + 1)) + 1 by omega, List.range_succ_eq_map, List.map_cons, List.map_map]
  congr 1
  · simp
  · apply List.map_congr_left
    intro j _
    simp; omega
theorem rngN_nil {i n : Nat} (h : n ≤ i) : rngN i n = [] := by unfold rngN; rw [show n - i = 0 by omega]; rfl
def isEv (ls : List (Str × Str)) (n : Str) (j : Nat) : Bool := decide (ls[j]? = some (("evict" : Str), n))
def isLd (ls : List (Str × Str)) (i : Nat) : Bool := decide ((ls[i]?.map (·.1)) = some ("load" : Str))
def nmAt (ls : List (Str × Str)) (i : Nat) : Str := (ls[i]?.map (·.2)).getD ("" : Str)
def endF (ls : List (Str × Str)) (n : Str) (i : Nat) : Option Nat := (rngN i ls.length).find? (isEv ls n)
def loadsF (ls : List (Str × Str)) : List Nat := (List.range ls.length).filter (isLd ls)
/-- the stays, by their load lines and their evict lines -/
def staysF (ls : List (Str × Str)) : List (Nat × Option Nat) := (loadsF ls).map fun i => (i, endF ls (nmAt ls i) i)
def oD : Option Nat → D
  | some n => .int (n : Int)
  | none => .non
def stayD (e : Nat × Option Nat) : D := .tup [.int (e.1 : Int), oD e.2]
section
variable {l : List (Str × Str)} {x : Str × Str} {n : Str} {i j : Nat}
theorem isEv_app (h : j < l.length) : isEv (l ++ [x]) n j = isEv l n j := by unfold isEv; rw [List.getElem?_append_left h]
theorem isLd_app (h : j < l.length) : isLd (l ++ [x]) j = isLd l j := by unfold isLd; rw [List.getElem?_append_left h]
theorem nmAt_app (h : j < l.length) : nmAt (l ++ [x]) j = nmAt l j := by unfold nmAt; rw [List.getElem?_append_left h]
theorem isLd_last : isLd (l ++ [x]) l.length = decide (x.1 = ("load" : Str)) := by unfold isLd; simp
theorem nmAt_last : nmAt (l ++ [x]) l.length = x.2 := by unfold nmAt; simp
theorem isEv_last : isEv (l ++ [x]) n l.length = decide (x = (("evict" : Str), n)) := by unfold isEv; simp
theorem find_congr {p q : Nat → Bool} : ∀ {xs : List Nat}, (∀ y ∈ xs, p y = q y) → xs.find? p = xs.find? q
  | [], _ => rfl
  | y :: ys, h => by
    rw [List.find?_cons, List.find?_cons, h y (by simp), find_congr fun z hz => h z (by simp [hz])]
theorem endF_snoc (h : i ≤ l.length) : endF (l ++ [x]) n i = (endF l n i).or (if x = (("evict" : Str), n) then some l.length else none) := by
  unfold endF
  rw [List.length_append, List.length_singleton, rngN_succ h, List.find?_append]
  rw [find_congr (p := isEv (l ++ [x]) n) (q := isEv l n) fun y hy => isEv_app (mem_rngN.mp hy).2]
  congr 1
  rw [List.find?_cons, isEv_last]
  by_cases hx : x = (("evict" : Str), n) <;> simp [hx]
theorem loadsF_snoc : loadsF (l ++ [x]) = loadsF l ++ (if x.1 = ("load" : Str) then [l.length] else []) := by
  unfold loadsF
  rw [List.length_append, List.length_singleton, List.range_succ, List.filter_append]
  rw [List.filter_congr (fun y hy => isLd_app (List.mem_range.mp hy))]
  congr 1
  rw [List.filter_cons, isLd_last]
  by_cases hx : x.1 = ("load" : Str) <;> simp [hx]
theorem mem_loadsF : i ∈ loadsF l ↔ i < l.length ∧ isLd l i = true := by
  unfold loadsF
  rw [List.mem_filter, List.mem_range]
theorem staysF_snoc : staysF (l ++ [x]) = ((staysF l).map fun e => (e.1, e.2.or (if x = (("evict" : Str), nmAt l e.1) then some l.length else none))) ++ (if x.1 = ("load" : Str) then [(l.length, none)] else []) := by
  unfold staysF
  rw [loadsF_snoc, List.map_append, List.map_map]
  congr 1
  · apply List.map_congr_left
    intro y hy
    have hl := (mem_loadsF.mp hy).1
    simp only [Function.comp_def]
    rw [nmAt_app hl, endF_snoc (by omega)]
  · by_cases hx : x.1 = ("load" : Str)
    · simp only [hx, if_true, List.map_cons, List.map_nil]
      rw [endF_snoc (Nat.le_refl _)]
      have h1 : endF l (nmAt (l ++ [x]) l.length) l.length = none := by unfold endF; rw [rngN_nil (Nat.le_refl _)]; rfl
      have h2 : ¬ (x = (("evict" : Str), nmAt (l ++ [x]) l.length)) := fun e => by
        rw [e] at hx
        exact (by decide +kernel : ¬ (("evict" : Str) = ("load" : Str))) hx
      rw [h1, if_neg h2]; rfl
    · simp [hx]
end
theorem snoc_ind {α : Type} {P : List α → Prop} (h0 : P []) (h1 : ∀ l x, P l → P (l ++ [x])) (l : List α) : P l := by
  have : ∀ m : List α, P m.reverse := fun m => by
    induction m with
    | nil => exact h0
    | cons x m ih => rw [List.reverse_cons]; exact h1 _ x ih
  have := this l.reverse
  rwa [List.reverse_reverse] at this
/-- which stays are open, and where -/
structure Opn (l : List (Str × Str)) (c : List Str) : Prop where
  op : ∀ n ∈ c, ∃ p, p ∈ loadsF l ∧ nmAt l p = n ∧ endF l n p = none ∧ ∀ i ∈ loadsF l, nmAt l i = n → endF l n i = none → i = p
  cl : ∀ n, n ∉ c → ∀ i ∈ loadsF l, nmAt l i = n → endF l n i ≠ none
  lt : ∀ n ∈ c, ∀ p ∈ loadsF l, nmAt l p = n → endF l n p = none → ∀ i ∈ loadsF l, nmAt l i = n → i ≤ p
theorem opn_run : ∀ {ls : List (Str × Str)} {c : List Str}, PL.run [] ls = some c → Opn ls c := by
  intro ls
  refine snoc_ind (P := fun ls => ∀ {c : List Str}, PL.run [] ls = some c → Opn ls c) ?_ ?_ ls
  · intro c h
    cases h
    exact ⟨fun n hn => absurd hn (by simp), fun n _ i hi => absurd hi (by simp [loadsF]), fun n hn => absurd hn (by simp)⟩
  · intro l x ih c h
    rw [run_app] at h
    cases hr : PL.run [] l with
    | none => rw [hr] at h; cases h
    | some c0 =>
      rw [hr] at h
      obtain ⟨c1, hs, h2⟩ := run_cons (c := c0) (ls := []) h
      cases h2
      have O := ih hr
      have hel : ¬ (("evict" : Str) = ("load" : Str)) := by decide +kernel
      have hhl : ¬ (("hit" : Str) = ("load" : Str)) := by decide +kernel
      have hhe : ¬ (("hit" : Str) = ("evict" : Str)) := by decide +kernel
      have hle : ¬ (("load" : Str) = ("evict" : Str)) := by decide +kernel
      have nm : ∀ {i : Nat}, i ∈ loadsF l → nmAt (l ++ [x]) i = nmAt l i := fun hi => nmAt_app (mem_loadsF.mp hi).1
      have en : ∀ {i : Nat} {n : Str}, i ∈ loadsF l → endF (l ++ [x]) n i = (endF l n i).or (if x = (("evict" : Str), n) then some l.length else none) := fun hi => endF_snoc (Nat.le_of_lt (mem_loadsF.mp hi).1)
      obtain ⟨w, m⟩ := x
      obtain ⟨hn, ⟨hw, hni, rfl⟩ | ⟨hw, hni, rfl⟩ | ⟨hw, hni, rfl⟩⟩ := stp_cases hs
      · simp only at hw hni
        subst hw
        have hld : loadsF (l ++ [(("load" : Str), m)]) = loadsF l ++ [l.length] := by rw [loadsF_snoc]; simp
        have hne : ∀ {n : Str}, ¬ ((("load" : Str), m) = (("evict" : Str), n)) := fun e => hle (congrArg Prod.fst e)
        have en' : ∀ {i : Nat} {n : Str}, i ∈ loadsF l → endF (l ++ [(("load" : Str), m)]) n i = endF l n i := fun hi => by rw [en hi, if_neg hne]; simp
        have enl : ∀ {n : Str}, endF (l ++ [(("load" : Str), m)]) n l.length = none := by
          intro n
          rw [endF_snoc (Nat.le_refl _), if_neg hne]
          have : endF l n l.length = none := by unfold endF; rw [rngN_nil (Nat.le_refl _)]; rfl
          rw [this]; rfl
        refine ⟨fun n hn' => ?_, fun n hn' i hi hni' => ?_, fun n hn' p hp hnp hep i hi hni' => ?_⟩
        · rcases List.mem_append.mp hn' with hn' | hn'
          · obtain ⟨p, h1, h2, h3, h4⟩ := O.op n hn'
            refine ⟨p, by rw [hld]; exact List.mem_append.mpr (.inl h1), by rw [nm h1]; exact h2, by rw [en' h1]; exact h3, fun i hi hni' hei => ?_⟩
            rw [hld] at hi
            rcases List.mem_append.mp hi with hi | hi
            · exact h4 i hi (by rw [← nm hi]; exact hni') (by rw [← en' hi]; exact hei)
            · rw [List.mem_singleton.mp hi, nmAt_last] at hni'
              exact absurd ((show m = n from hni') ▸ hn') hni
          · rw [List.mem_singleton.mp hn']
            refine ⟨l.length, by rw [hld]; simp, nmAt_last, enl, fun i hi hni' hei => ?_⟩
            rw [hld] at hi
            rcases List.mem_append.mp hi with hi | hi
            · exact absurd (by rw [← en' hi]; exact hei) (O.cl m hni i hi (by rw [← nm hi]; exact hni'))
            · exact List.mem_singleton.mp hi
        · rw [hld] at hi
          rcases List.mem_append.mp hi with hi | hi
          · rw [en' hi]
            exact O.cl n (fun e => hn' (List.mem_append.mpr (.inl e))) i hi (by rw [← nm hi]; exact hni')
          · rw [List.mem_singleton.mp hi, nmAt_last] at hni'
            exact absurd (List.mem_append.mpr (.inr (by simp [← hni']))) hn'
        · rw [hld] at hi hp
          rcases List.mem_append.mp hp with hp | hp
          · rcases List.mem_append.mp hi with hi | hi
            · have hnc : n ∈ c0 := by
                refine Classical.byContradiction fun hc => ?_
                exact O.cl n hc p hp (by rw [← nm hp]; exact hnp) (by rw [← en' hp]; exact hep)
              exact O.lt n hnc p hp (by rw [← nm hp]; exact hnp) (by rw [← en' hp]; exact hep) i hi (by rw [← nm hi]; exact hni')
            · rw [List.mem_singleton.mp hi, nmAt_last] at hni'
              simp only at hni'
              subst hni'
              exact absurd (by rw [← en' hp]; exact hep) (O.cl m hni p hp (by rw [← nm hp]; exact hnp))
          · rw [List.mem_singleton.mp hp]
            rcases List.mem_append.mp hi with hi | hi
            · exact Nat.le_of_lt (mem_loadsF.mp hi).1
            · rw [List.mem_singleton.mp hi]; exact Nat.le_refl _
      · simp only at hw hni
        subst hw
        have hld : loadsF (l ++ [(("hit" : Str), m)]) = loadsF l := by rw [loadsF_snoc, if_neg hhl]; simp
        have hne : ∀ {n : Str}, ¬ ((("hit" : Str), m) = (("evict" : Str), n)) := fun e => hhe (congrArg Prod.fst e)
        have en' : ∀ {i : Nat} {n : Str}, i ∈ loadsF l → endF (l ++ [(("hit" : Str), m)]) n i = endF l n i := fun hi => by rw [en hi, if_neg hne]; simp
        refine ⟨fun n hn' => ?_, fun n hn' i hi hni' => ?_, fun n hn' p hp hnp hep i hi hni' => ?_⟩
        · obtain ⟨p, h1, h2, h3, h4⟩ := O.op n hn'
          exact ⟨p, by rw [hld]; exact h1, by rw [nm h1]; exact h2, by rw [en' h1]; exact h3, fun i hi hni' hei => by rw [hld] at hi; exact h4 i hi (by rw [← nm hi]; exact hni') (by rw [← en' hi]; exact hei)⟩
        · rw [hld] at hi; rw [en' hi]; exact O.cl n hn' i hi (by rw [← nm hi]; exact hni')
        · rw [hld] at hi hp; exact O.lt n hn' p hp (by rw [← nm hp]; exact hnp) (by rw [← en' hp]; exact hep) i hi (by rw [← nm hi]; exact hni')
      · simp only at hw hni
        subst hw
        have hld : loadsF (l ++ [(("evict" : Str), m)]) = loadsF l := by rw [loadsF_snoc, if_neg hel]; simp
        have en' : ∀ {i : Nat} {n : Str}, i ∈ loadsF l → n ≠ m → endF (l ++ [(("evict" : Str), m)]) n i = endF l n i := fun hi hnm => by
          rw [en hi, if_neg (fun e => hnm (congrArg Prod.snd e).symm)]; simp
        have enm : ∀ {i : Nat}, i ∈ loadsF l → endF (l ++ [(("evict" : Str), m)]) m i ≠ none := fun hi => by
          rw [en hi, if_pos rfl]
          cases endF l m _ <;> simp
        refine ⟨fun n hn' => ?_, fun n hn' i hi hni' => ?_, fun n hn' p hp hnp hep i hi hni' => ?_⟩
        · obtain ⟨hn1, hn2⟩ := List.mem_filter.mp hn'
          have hnm : n ≠ m := by simpa using hn2
          obtain ⟨p, h1, h2, h3, h4⟩ := O.op n hn1
          exact ⟨p, by rw [hld]; exact h1, by rw [nm h1]; exact h2, by rw [en' h1 hnm]; exact h3, fun i hi hni' hei => by rw [hld] at hi; exact h4 i hi (by rw [← nm hi]; exact hni') (by rw [← en' hi hnm]; exact hei)⟩
        · rw [hld] at hi
          by_cases hnm : n = m
          · subst hnm; exact enm hi
          · rw [en' hi hnm]
            exact O.cl n (fun e => hn' (List.mem_filter.mpr ⟨e, by simpa using hnm⟩)) i hi (by rw [← nm hi]; exact hni')
        · obtain ⟨hn1, hn2⟩ := List.mem_filter.mp hn'
          have hnm : n ≠ m := by simpa using hn2
          rw [hld] at hi hp; exact O.lt n hn1 p hp (by rw [← nm hp]; exact hnp) (by rw [← en' hp hnm]; exact hep) i hi (by rw [← nm hi]; exact hni')
end PL
namespace G
open PySem L2
theorem dputR_new {es : List (Nat × D)} {n : Nat} {v : D} (h : n ∉ es.map (·.1)) (hl : es.length < 10 ^ 6) : dputR (iD es) (.int (n : Int)) v = .ok (iD (es ++ [(n, v)])) := by
  have : es.length < sizeLine := Nat.lt_of_lt_of_le hl (by decide)
  simp only [dputR, keyOf, iD_put_new h, iD_len, this, if_true]
theorem dputR_old {es : List (Nat × D)} {n : Nat} {v : D} (h : n ∈ es.map (·.1)) (hl : es.length < 10 ^ 6) : dputR (iD es) (.int (n : Int)) v = .ok (iD (es.map fun e => if e.1 = n then (e.1, v) else e)) := by
  have : es.length < sizeLine := Nat.lt_of_lt_of_le hl (by decide)
  simp only [dputR, keyOf, iD_put_old h, iD_len, this, if_true]
theorem items_iD (es : List (Nat × D)) : itemsD (iD es) = es.map fun e => .tup [.int (e.1 : Int), e.2] := by simp [itemsD, iD]
def nPut (q : List (Str × Nat)) (n : Str) (i : Nat) : List (Str × Nat) := if q.any (fun e => e.1 == n) then q.map (fun e => if e.1 == n then (e.1, i) else e) else q ++ [(n, i)]
theorem sPut_qD (q : List (Str × Nat)) (n : Str) (i : Nat) : sPut (qD q) n (.int (i : Int)) = qD (nPut q n i) := by
  unfold sPut nPut qD
  have e : (q.map fun e => (e.1, D.int (e.2 : Int))).any (fun e => e.1 == n) = q.any (fun e => e.1 == n) := by
    rw [List.any_map]; rfl
  rw [e]
  by_cases h : q.any (fun e => e.1 == n) = true
  · rw [if_pos h, if_pos h, List.map_map, List.map_map]
    apply List.map_congr_left
    intro e _
    by_cases he : e.1 = n <;> simp [he]
  · rw [if_neg h, if_neg h]; simp
theorem mem_nPut {q : List (Str × Nat)} {n : Str} {i : Nat} {e : Str × Nat} (h : e ∈ nPut q n i) : e = (n, i) ∨ (e ∈ q ∧ e.1 ≠ n) := by
  unfold nPut at h
  split at h
  · obtain ⟨f, hf, rfl⟩ := List.mem_map.mp h
    by_cases hfn : f.1 = n
    · left; simp [hfn]
    · right; simp [hfn, hf]
  · rename_i hany
    rcases List.mem_append.mp h with h | h
    · refine .inr ⟨h, fun e' => hany (List.any_eq_true.mpr ⟨e, h, by simpa using e'⟩)⟩
    · left; simpa using h
theorem nPut_keys {q : List (Str × Nat)} {n : Str} {i : Nat} {m : Str} : m ∈ (nPut q n i).map (·.1) ↔ m = n ∨ m ∈ q.map (·.1) := by
  unfold nPut
  split
  · rename_i hany
    obtain ⟨f, hf, hfn⟩ := List.any_eq_true.mp hany
    have hfn' : f.1 = n := by simpa using hfn
    have : (q.map (fun e => if e.1 == n then (e.1, i) else e)).map (·.1) = q.map (·.1) := by
      rw [List.map_map]
      apply List.map_congr_left
      intro e _
      by_cases he : e.1 = n <;> simp [he]
    rw [this]
    exact ⟨.inr, fun h => h.elim (fun e => e ▸ hfn' ▸ List.mem_map.mpr ⟨f, hf, rfl⟩) id⟩
  · simp [or_comm]
theorem nPut_len (q : List (Str × Nat)) (n : Str) (i : Nat) : (nPut q n i).length ≤ q.length + 1 := by
  unfold nPut; split <;> simp
end G
namespace PL
open PySem L2 G M
theorem loadsF_len (ls : List (Str × Str)) : (loadsF ls).length ≤ ls.length := by
  unfold loadsF
  have := List.length_filter_le (isLd ls) (List.range ls.length)
  rwa [List.length_range] at this
theorem run_snoc {l1 : List (Str × Str)} {x : Str × Str} {l2 ls : List (Str × Str)} {c d : List Str} (hx : ls = l1 ++ x :: l2) (h : PL.run [] ls = some d) (hr : PL.run [] l1 = some c) : ∃ c', stp c x = some c' ∧ PL.run [] (l1 ++ [x]) = some c' := by
  rw [hx, run_app, hr] at h
  obtain ⟨e, h1, _⟩ := run_cons (c := c) h
  refine ⟨e, h1, ?_⟩
  rw [run_app, hr]
  show PL.run c [x] = _
  unfold PL.run; rw [List.foldlM_cons, h1]; rfl
def evD (l : List (Str × Str)) : List (Nat × D) := (staysF l).map fun e => (e.1, oD e.2)
theorem evD_keys (l : List (Str × Str)) : (evD l).map (·.1) = loadsF l := by
  unfold evD staysF
  rw [List.map_map, List.map_map]
  conv => rhs; rw [← List.map_id (loadsF l)]
  rfl
theorem evD_len (l : List (Str × Str)) : (evD l).length ≤ l.length := by
  have h := congrArg List.length (evD_keys l)
  rw [List.length_map] at h
  have := loadsF_len l
  omega
theorem stays_in_ok {ls : List (Str × Str)} {d : List Str} (h : PL.run [] ls = some d) (hl : ls.length ≤ 1000) : m_stays_in (logD ls) = .ok ((staysF ls).map stayD) := by
  obtain ⟨b, e1, q, c, rfl, hr, hlen, hq, hk⟩ := foldR_E (f := stays_in_q1) (enc := lineD) (xs := ls) (b := ([], []))
    (fun l1 b => ∃ (q : List (Str × Nat)) (c : List Str), b = (sD (qD q), iD (evD l1)) ∧ PL.run [] l1 = some c ∧ q.length ≤ l1.length ∧ (∀ e ∈ q, e.2 ∈ loadsF l1 ∧ nmAt l1 e.2 = e.1 ∧ ∀ i ∈ loadsF l1, nmAt l1 i = e.1 → i ≤ e.2) ∧ ∀ i ∈ loadsF l1, nmAt l1 i ∈ q.map (·.1))
    ⟨[], [], rfl, rfl, by simp, fun e he => (by cases he), fun i hi => by simp [loadsF] at hi⟩
    (fun l1 x l2 b hx ⟨q, c, hb, hr, hlen, hq, hk⟩ => by
      subst hb
      obtain ⟨c', hs, hr'⟩ := run_snoc hx h hr
      have O := opn_run hr
      have hll : l1.length ≤ 1000 := by
        have := congrArg List.length hx
        simp at this; omega
      have hql : (qD q).length < 10 ^ 6 := by simp [qD]; omega
      have hel : (evD l1).length < 10 ^ 6 := by have := evD_len l1; omega
      have hle' : ¬ (("load" : Str) = ("evict" : Str)) := by decide +kernel
      have hel' : ¬ (("evict" : Str) = ("load" : Str)) := by decide +kernel
      have hhl : ¬ (("hit" : Str) = ("load" : Str)) := by decide +kernel
      have hhe : ¬ (("hit" : Str) = ("evict" : Str)) := by decide +kernel
      obtain ⟨w, n⟩ := x
      obtain ⟨hn, ⟨hw, hni, rfl⟩ | ⟨hw, hni, rfl⟩ | ⟨hw, hni, rfl⟩⟩ := stp_cases hs
      · simp only at hw hni
        subst hw
        have hnk : l1.length ∉ (evD l1).map (·.1) := by
          rw [evD_keys]; exact fun e => absurd (mem_loadsF.mp e).1 (Nat.lt_irrefl _)
        have hld : loadsF (l1 ++ [(("load" : Str), n)]) = loadsF l1 ++ [l1.length] := by rw [loadsF_snoc]; simp
        have hev : evD (l1 ++ [(("load" : Str), n)]) = evD l1 ++ [(l1.length, .non)] := by
          unfold evD
          rw [staysF_snoc, List.map_append, List.map_map]
          have h1 : (staysF l1).map ((fun e : Nat × Option Nat => (e.1, oD e.2)) ∘ fun e => (e.1, e.2.or (if (("load" : Str), n) = (("evict" : Str), nmAt l1 e.1) then some l1.length else none))) = (staysF l1).map fun e => (e.1, oD e.2) := by
            apply List.map_congr_left
            intro e _
            have : ¬ ((("load" : Str), n) = (("evict" : Str), nmAt l1 e.1)) := fun z => hle' (congrArg Prod.fst z)
            simp only [Function.comp_def, if_neg this, Option.or_none]
          rw [h1]
          simp [oD]
        refine ⟨_, ?_, nPut q n l1.length, _, rfl, hr', by have := nPut_len q n l1.length; simp; omega, fun e he => ?_, fun i hi => ?_⟩
        · unfold stays_in_q1
          simp -implicitDefEqProofs only [lineD, tup12, Res.bind_ok, opEq_s, decide_true, if_true, dputR_s _ _ _ hql, sPut_qD, dputR_new hnk hel, hev]
        · rw [hld]
          rcases mem_nPut he with rfl | ⟨he, hne⟩
          · refine ⟨by simp, nmAt_last, fun i hi _ => ?_⟩
            rcases List.mem_append.mp hi with hi | hi
            · exact Nat.le_of_lt (mem_loadsF.mp hi).1
            · rw [List.mem_singleton.mp hi]; exact Nat.le_refl _
          · obtain ⟨g1, g2, g3⟩ := hq e he
            refine ⟨List.mem_append.mpr (.inl g1), by rw [nmAt_app (mem_loadsF.mp g1).1]; exact g2, fun i hi hni' => ?_⟩
            rcases List.mem_append.mp hi with hi | hi
            · exact g3 i hi (by rw [← nmAt_app (mem_loadsF.mp hi).1]; exact hni')
            · rw [List.mem_singleton.mp hi, nmAt_last] at hni'
              exact absurd hni'.symm hne
        · rw [nPut_keys]
          rw [hld] at hi
          rcases List.mem_append.mp hi with hi | hi
          · right; rw [nmAt_app (mem_loadsF.mp hi).1]; exact hk i hi
          · left; rw [List.mem_singleton.mp hi, nmAt_last]
      · simp only at hw hni
        subst hw
        have hld : loadsF (l1 ++ [(("hit" : Str), n)]) = loadsF l1 := by rw [loadsF_snoc, if_neg hhl]; simp
        have hev : evD (l1 ++ [(("hit" : Str), n)]) = evD l1 := by
          unfold evD
          rw [staysF_snoc, if_neg hhl, List.append_nil, List.map_map]
          apply List.map_congr_left
          intro e _
          have : ¬ ((("hit" : Str), n) = (("evict" : Str), nmAt l1 e.1)) := fun z => hhe (congrArg Prod.fst z)
          simp only [Function.comp_def, if_neg this, Option.or_none]
        refine ⟨_, ?_, q, _, rfl, hr', by simp; omega, fun e he => ?_, fun i hi => ?_⟩
        · unfold stays_in_q1
          simp -implicitDefEqProofs only [lineD, tup12, Res.bind_ok, opEq_s, decide_eq_false hhl, decide_eq_false hhe, hev]
          rfl
        · rw [hld]
          obtain ⟨g1, g2, g3⟩ := hq e he
          exact ⟨g1, by rw [nmAt_app (mem_loadsF.mp g1).1]; exact g2, fun i hi hni' => g3 i hi (by rw [← nmAt_app (mem_loadsF.mp hi).1]; exact hni')⟩
        · rw [hld] at hi; rw [nmAt_app (mem_loadsF.mp hi).1]; exact hk i hi
      · simp only at hw hni
        subst hw
        have hld : loadsF (l1 ++ [(("evict" : Str), n)]) = loadsF l1 := by rw [loadsF_snoc, if_neg hel']; simp
        obtain ⟨p, o1, o2, o3, o4⟩ := O.op n hni
        have olt := O.lt n hni p o1 o2 o3
        obtain ⟨v, g1, g2⟩ := sGet_mem (es := qD q) (n := n) (by rw [qD_keys, ← o2]; exact hk p o1)
        obtain ⟨e, he, hee⟩ := List.mem_map.mp g2
        obtain ⟨k1, k2, k3⟩ := hq e he
        have he1 : e.1 = n := congrArg Prod.fst hee
        have hep : e.2 = p := Nat.le_antisymm (olt e.2 k1 (by rw [k2, he1])) (k3 p o1 (by rw [he1]; exact o2))
        have hv : v = .int (p : Int) := by rw [← hep]; exact (congrArg Prod.snd hee).symm
        have hix : opDIx (.dict (sD (qD q))) (.str n) = .ok (.int (p : Int)) := by rw [opDIx_s, g1, hv]; rfl
        have hpk : p ∈ (evD l1).map (·.1) := by rw [evD_keys]; exact o1
        have hev : evD (l1 ++ [(("evict" : Str), n)]) = (evD l1).map fun e => if e.1 = p then (e.1, D.int (l1.length : Int)) else e := by
          unfold evD
          rw [staysF_snoc, if_neg hel', List.append_nil, List.map_map, List.map_map]
          apply List.map_congr_left
          intro e he
          obtain ⟨i, hi, rfl⟩ := List.mem_map.mp he
          simp only [Function.comp_def]
          by_cases hip : i = p
          · subst hip
            rw [if_pos rfl, o2, o3, if_pos rfl]; rfl
          · rw [if_neg hip]
            by_cases hin : nmAt l1 i = n
            · rw [hin]
              cases hei : endF l1 n i with
              | none => exact absurd (o4 i hi hin hei) hip
              | some z => simp
            · have : ¬ ((("evict" : Str), n) = (("evict" : Str), nmAt l1 i)) := fun z => hin (congrArg Prod.snd z).symm
              rw [if_neg this]; simp
        refine ⟨_, ?_, q, _, rfl, hr', by simp; omega, fun e he => ?_, fun i hi => ?_⟩
        · unfold stays_in_q1
          simp -implicitDefEqProofs only [lineD, tup12, Res.bind_ok, opEq_s, decide_eq_false hel', decide_true, hix, dputR_old hpk hel, hev]
          simp
        · rw [hld]
          obtain ⟨g1, g2, g3⟩ := hq e he
          exact ⟨g1, by rw [nmAt_app (mem_loadsF.mp g1).1]; exact g2, fun i hi hni' => g3 i hi (by rw [← nmAt_app (mem_loadsF.mp hi).1]; exact hni')⟩
        · rw [hld] at hi; rw [nmAt_app (mem_loadsF.mp hi).1]; exact hk i hi)
  unfold m_stays_in
  simp -implicitDefEqProofs only [Res.bind_ok]
  rw [show foldR (fun b1 d2 => stays_in_q1 b1 d2) (enumD (logD ls)) ([], []) = _ from e1]
  simp -implicitDefEqProofs only [Res.bind_ok, items_iD, evD, List.map_map]
  rfl
end PL
namespace PL
open PySem L2 G M
theorem aft_mem {o c c' : List Str} {l : Str × Str} (hs : stp c l = some c') (h : ∀ m, m ∈ o ↔ m ∈ c) (m : Str) : m ∈ aft o l ↔ m ∈ c' := by
  obtain ⟨w, n⟩ := l
  unfold aft
  obtain ⟨_, ⟨hw, hni, rfl⟩ | ⟨hw, hni, rfl⟩ | ⟨hw, hni, rfl⟩⟩ := stp_cases hs
  · rw [if_neg (fun e => le_ne (hw.symm.trans e))]
    simp only [List.mem_append, List.mem_filter, List.mem_singleton, h m]
    simp only at hni
    by_cases hm : m = n <;> simp [hm]
  · rw [if_neg (fun e => he_ne (hw.symm.trans e))]
    simp only [List.mem_append, List.mem_filter, List.mem_singleton, h m]
    simp only at hni
    by_cases hm : m = n
    · subst hm; simp [hni]
    · simp [hm]
  · rw [if_pos hw]
    simp only [List.mem_filter, h m]
theorem fwi_loop : ∀ (ls : List (Str × Str)) (k : Nat) (o c d : List Str), PL.run c ls = some d → (∀ m, m ∈ o ↔ m ∈ c) → o.length + ls.length ≤ 1000 →
    forD first_wrong_in_q1 (enumF k (logD ls)) (o.map .str) = .ok (match fwF k o ls with | none => .inl ((ls.foldl aft o).map .str) | some j => .inr (.ret (.int (j : Int))))
  | [], k, o, c, d, _, _, _ => rfl
  | (w, n) :: ls, k, o, c, d, h, ho, hl => by
    obtain ⟨c', hs, hr⟩ := run_cons h
    have hl' : o.length ≤ 1000 := by omega
    have hal := aft_len o (w, n)
    rw [List.length_cons] at hl
    show forD first_wrong_in_q1 (.tup [.int (k : Int), lineD (w, n)] :: enumF (k + 1) (logD ls)) _ = _
    rw [forD]
    have e0 : tup12 (.tup [.int (k : Int), lineD (w, n)]) = .ok (.int (k : Int), .str w, .str n) := rfl
    have ih := fwi_loop ls (k + 1) (aft o (w, n)) c' d hr (aft_mem hs ho) (by omega)
    by_cases hw : w = ("evict" : Str)
    · have hnc : n ∈ c := by
        obtain ⟨_, ⟨h, _⟩ | ⟨h, _⟩ | ⟨_, h, _⟩⟩ := stp_cases hs
        · exact absurd (hw.symm.trans h) el_ne
        · exact absurd (h.symm.trans hw) he_ne
        · exact h
      have hno : n ∈ o := (ho n).mpr hnc
      obtain ⟨x, o', rfl⟩ : ∃ x o', o = x :: o' := by cases o with | nil => cases hno | cons x o => exact ⟨x, o, rfl⟩
      have e1 : opIx (.list ((x :: o').map .str)) (.int 0) = .ok (.str x) := opIx_at (i := 0) rfl
      have e2 : first_wrong_in_q1 ((x :: o').map .str) (.tup [.int (k : Int), lineD (w, n)]) = .ok (if x = n then .inl ((aft (x :: o') (w, n)).map .str) else .inr (.ret (.int (k : Int)))) := by
        unfold first_wrong_in_q1
        rw [e0]
        simp -implicitDefEqProofs only [Res.bind_ok, opEq_s, andR, hw, decide_true, if_true, e1, opNe_s]
        have := aft_ok (w := w) (n := n) hl'
        rw [hw] at this
        by_cases hx : x = n
        · simp -implicitDefEqProofs only [hx, decide_true, Bool.not_true, Bool.false_eq_true, if_false, if_true, hx ▸ this, Res.bind_ok]
        · simp [hx]
      rw [e2, Res.bind_ok]
      unfold fwF
      by_cases hx : x = n
      · have : ¬ ((w, n).1 = ("evict" : Str) ∧ (x :: o').head? ≠ some (w, n).2) := by simp [hx]
        rw [if_pos hx, if_neg this]
        exact ih
      · have : ((w, n).1 = ("evict" : Str) ∧ (x :: o').head? ≠ some (w, n).2) := ⟨hw, by simp [hx]⟩
        rw [if_neg hx, if_pos this]
    · have e2 : first_wrong_in_q1 (o.map .str) (.tup [.int (k : Int), lineD (w, n)]) = .ok (.inl ((aft o (w, n)).map .str)) := by
        unfold first_wrong_in_q1
        rw [e0]
        simp -implicitDefEqProofs only [Res.bind_ok, opEq_s, andR, hw, decide_false, Bool.false_eq_true, if_false, aft_ok (w := w) (n := n) hl']
      rw [e2, Res.bind_ok]
      unfold fwF
      have : ¬ ((w, n).1 = ("evict" : Str) ∧ o.head? ≠ some (w, n).2) := fun e => hw e.1
      rw [if_neg this]
      exact ih
def jD (o : Option Nat) : D := match o with | none => .non | some j => .int (j : Int)
theorem fwi_ok {ls : List (Str × Str)} {d : List Str} (h : PL.run [] ls = some d) (hl : ls.length ≤ 1000) : m_first_wrong_in (logD ls) = .ok (jD (fwF 0 [] ls)) := by
  have e := fwi_loop ls 0 [] [] d h (fun m => Iff.rfl) (by simpa using hl)
  unfold m_first_wrong_in
  simp -implicitDefEqProofs only [Res.bind_ok]
  rw [enumD_eq, show ([] : List D) = ([] : List Str).map .str from rfl]
  rw [show forD (fun b1 d2 => first_wrong_in_q1 b1 d2) (enumF 0 (logD ls)) (([] : List Str).map .str) = _ from e]
  cases fwF 0 [] ls <;> rfl
theorem fw_ok {ls : List (Str × Str)} {d : List Str} (h : PL.run [] ls = some d) (hl : ls.length ≤ 40) : m_first_wrong (logD ls) = .ok (jD (fwF 0 [] ls)) := by
  unfold m_first_wrong
  simp -implicitDefEqProofs only [Res.bind_ok, require_ok h hl, fwi_ok h (by omega)]
/-! ### by a dict of last uses -/
theorem sGet_sPut (es : List (Str × D)) (n : Str) (v : D) (m : Str) : sGet (sPut es n v) m = if m = n then some v else sGet es m := by
  unfold sGet sPut
  by_cases ha : es.any (fun e => e.1 == n) = true
  · rw [if_pos ha]
    induction es with
    | nil => simp at ha
    | cons e es ih =>
      rw [List.map_cons, List.find?_cons]
      by_cases he : e.1 = n
      · by_cases hm : m = n
        · simp [he, hm]
        · have : (e.1 == m) = false := by simpa [he] using fun h => hm h.symm
          simp only [he, beq_self_eq_true, if_true]
          have hnm : (n == m) = false := by simpa using fun h => hm h.symm
          rw [hnm]
          simp only [if_neg hm]
          rw [List.find?_cons, this]
          by_cases ha' : es.any (fun e => e.1 == n) = true
          · have := ih ha'
            rw [if_neg hm] at this
            exact this
          · congr 1
            have : es.map (fun e => if (e.1 == n) = true then (e.1, v) else e) = es := by
              conv => rhs; rw [← List.map_id es]
              apply List.map_congr_left
              intro x hx
              have : ¬ (x.1 == n) = true := fun h => ha' (List.any_eq_true.mpr ⟨x, hx, h⟩)
              simp [this]
            rw [this]
      · have ha' : es.any (fun e => e.1 == n) = true := by simpa [he] using ha
        have hen : (e.1 == n) = false := by simpa using he
        simp only [hen, Bool.false_eq_true, if_false]
        rw [List.find?_cons]
        by_cases hm : e.1 = m
        · have hmn : m ≠ n := fun h => he (hm.trans h)
          simp [hm, hmn]
        · have : (e.1 == m) = false := by simpa using hm
          rw [this]
          exact ih ha'
  · rw [if_neg ha, List.find?_append]
    by_cases hm : m = n
    · subst hm
      have : es.find? (fun e => e.1 == m) = none := List.find?_eq_none.mpr fun x hx h => ha (List.any_eq_true.mpr ⟨x, hx, h⟩)
      rw [this]; simp
    · have : (n == m) = false := by simpa using fun h => hm h.symm
      simp [this, hm]
theorem sGet_sDel (es : List (Str × D)) (n m : Str) (h : m ≠ n) : sGet (sDel es n) m = sGet es m := by
  unfold sGet sDel
  induction es with
  | nil => rfl
  | cons e es ih =>
    rw [List.filter_cons]
    by_cases he : e.1 = n
    · have : ¬ (!(e.1 == n)) = true := by simp [he]
      rw [if_neg this, ih, List.find?_cons]
      have : (e.1 == m) = false := by simpa [he] using fun q => h q.symm
      rw [this]
    · rw [if_pos (by simpa using he), List.find?_cons, List.find?_cons]
      by_cases hm : e.1 = m
      · simp [hm]
      · have : (e.1 == m) = false := by simpa using hm
        rw [this]; exact ih
theorem keys_sD (es : List (Str × D)) : keysD (sD es) = (es.map (·.1)).map .str := by simp [keysD, sD]
/-- last uses stand in order -/
structure Las (k : Nat) (es : List (Str × D)) (o : List Str) : Prop where
  keys : ∀ m, m ∈ es.map (·.1) ↔ m ∈ o
  nd : o.Nodup
  len : es.length ≤ k
  u : ∃ u : Str → Nat, (∀ m ∈ o, sGet es m = some (.int (u m : Int))) ∧ o.Pairwise (fun a b => u a < u b) ∧ ∀ m ∈ o, u m < k
theorem las_put {k : Nat} {es : List (Str × D)} {o : List Str} (L : Las k es o) (n : Str) : Las (k + 1) (sPut es n (.int (k : Int))) (o.filter (fun m => !(m == n)) ++ [n]) := by
  obtain ⟨u, h1, h2, h3⟩ := L.u
  refine ⟨fun m => ?_, ?_, ?_, fun m => if m = n then k else u m, fun m hm => ?_, ?_, fun m hm => ?_⟩
  · rw [sPut_keys]
    have := L.keys m
    split
    · rename_i hn
      rw [L.keys] at hn
      simp only [List.mem_append, List.mem_filter, List.mem_singleton]
      rw [this]
      by_cases hm : m = n
      · subst hm; simp [hn]
      · simp [hm]
    · simp only [List.mem_append, List.mem_filter, List.mem_singleton]
      rw [this]
      by_cases hm : m = n <;> simp [hm]
  · rw [List.nodup_append]
    exact ⟨L.nd.filter _, by simp, fun a ha b hb => by rw [List.mem_singleton.mp hb]; simpa using (List.mem_filter.mp ha).2⟩
  · have := sPut_keys es n (.int (k : Int))
    have h4 := congrArg List.length this
    rw [List.length_map] at h4
    rw [h4]
    have := L.len
    split
    · rw [List.length_map]; omega
    · simp; omega
  · rw [sGet_sPut]
    by_cases hmn : m = n
    · simp [hmn]
    · simp only [if_neg hmn]
      rcases List.mem_append.mp hm with hm | hm
      · exact h1 m (List.mem_filter.mp hm).1
      · exact absurd (List.mem_singleton.mp hm) hmn
  · rw [List.pairwise_append]
    refine ⟨?_, by simp, fun a ha b hb => ?_⟩
    · refine List.Pairwise.imp_of_mem ?_ (h2.filter _)
      intro a b ha hb hab
      have ha' : a ≠ n := by simpa using (List.mem_filter.mp ha).2
      have hb' : b ≠ n := by simpa using (List.mem_filter.mp hb).2
      simpa [ha', hb'] using hab
    · have ha' : a ≠ n := by simpa using (List.mem_filter.mp ha).2
      rw [List.mem_singleton.mp hb]
      simpa [ha'] using h3 a (List.mem_filter.mp ha).1
  · by_cases hmn : m = n
    · simp [hmn]
    · simp only [if_neg hmn]
      rcases List.mem_append.mp hm with hm | hm
      · exact Nat.lt_succ_of_lt (h3 m (List.mem_filter.mp hm).1)
      · exact absurd (List.mem_singleton.mp hm) hmn
theorem las_del {k : Nat} {es : List (Str × D)} {o : List Str} (L : Las k es o) (n : Str) : Las (k + 1) (sDel es n) (o.filter (fun m => !(m == n))) := by
  obtain ⟨u, h1, h2, h3⟩ := L.u
  refine ⟨fun m => ?_, L.nd.filter _, ?_, u, fun m hm => ?_, h2.filter _, fun m hm => Nat.lt_succ_of_lt (h3 m (List.mem_filter.mp hm).1)⟩
  · rw [sDel_keys, List.mem_filter, List.mem_filter, L.keys m]
  · have := List.length_filter_le (fun e : Str × D => !(e.1 == n)) es
    have := L.len
    show (es.filter fun e => !(e.1 == n)).length ≤ _
    omega
  · have hm' := List.mem_filter.mp hm
    rw [sGet_sDel _ _ _ (by simpa using hm'.2)]
    exact h1 m hm'.1
theorem lfw_loop : ∀ (ls : List (Str × Str)) (k : Nat) (o c d : List Str) (es : List (Str × D)), PL.run c ls = some d → (∀ m ∈ c, nameB m = true) → (∀ m, m ∈ o ↔ m ∈ c) → Las k es o → k + ls.length ≤ 1000 →
    ∃ z, forD law_first_wrong_q2 (enumF k (logD ls)) (sD es) = .ok z ∧ (match fwF k o ls with | none => ∃ b, z = .inl b | some j => z = .inr (.ret (.int (j : Int))))
  | [], k, o, c, d, es, _, _, _, _, _ => ⟨_, rfl, _, rfl⟩
  | (w, n) :: ls, k, o, c, d, es, h, hcn, ho, L, hl => by
    obtain ⟨c', hs, hr⟩ := run_cons h
    rw [List.length_cons] at hl
    show ∃ z, forD law_first_wrong_q2 (.tup [.int (k : Int), lineD (w, n)] :: enumF (k + 1) (logD ls)) _ = _ ∧ _
    rw [forD]
    have e0 : tup12 (.tup [.int (k : Int), lineD (w, n)]) = .ok (.int (k : Int), .str w, .str n) := rfl
    have hcn' : ∀ m ∈ c', nameB m = true := run_names' (c := c) (ls := [(w, n)]) (by unfold PL.run; rw [List.foldlM_cons, hs]; rfl) hcn
    have lE : ∀ {m : Str}, nameB m = true → leafE (.str m) = true := fun {m} hm => (fin2 (w := ("load" : Str)) (by decide +kernel) hm).2.1
    have hel := L.len
    by_cases hw : w = ("evict" : Str)
    · have hnc : n ∈ c := by
        obtain ⟨_, ⟨h, _⟩ | ⟨h, _⟩ | ⟨_, h, _⟩⟩ := stp_cases hs
        · exact absurd (hw.symm.trans h) el_ne
        · exact absurd (h.symm.trans hw) he_ne
        · exact h
      have hno : n ∈ o := (ho n).mpr hnc
      have hae : aft o (w, n) = o.filter fun m => !(m == n) := by unfold aft; rw [if_pos hw]
      have ih := lfw_loop ls (k + 1) (aft o (w, n)) c' d (sDel es n) hr hcn' (aft_mem hs ho) (by rw [hae]; exact las_del L n) (by omega)
      obtain ⟨u, h1, h2, h3⟩ := L.u
      obtain ⟨v, _, e5⟩ := opDPop_s es n ((L.keys n).mpr hno)
      have e1 : compO (law_first_wrong_q1 (sD es) (.int (k : Int), .str w, .str n)) ((es.map (·.1)).map .str) = .ok (((es.map (·.1)).filter fun m => decide (u m < u n)).map .str) := compO_ok (fun m hm => by
        have hmo := (L.keys m).mp hm
        unfold law_first_wrong_q1
        simp -implicitDefEqProofs only [Res.bind_ok, opDIx_s, h1 m hmo, h1 n hno, ofO, opLt_i, iffO]
        by_cases hlt : u m < u n
        · have : (u m : Int) < (u n : Int) := by omega
          simp [hlt, Res.map]
        · have : ¬ (u m : Int) < (u n : Int) := by omega
          simp [hlt, Res.map]) (by rw [List.length_map]; omega)
      have e2 : opC .NotEq (.list (((es.map (·.1)).filter fun m => decide (u m < u n)).map .str)) (.list []) = .ok (!decide (((es.map (·.1)).filter fun m => decide (u m < u n)) = [])) :=
        opNe_strs (d := []) (fun m hm => lE (hcn m ((ho m).mp ((L.keys m).mp (List.mem_filter.mp hm).1)))) (fun m hm => absurd hm (by simp))
      have hkey : ((es.map (·.1)).filter fun m => decide (u m < u n)) = [] ↔ o.head? = some n := by
        obtain ⟨x, o', rfl⟩ : ∃ x o', o = x :: o' := by cases o with | nil => cases hno | cons x o => exact ⟨x, o, rfl⟩
        rw [List.filter_eq_nil_iff]
        have hp := List.pairwise_cons.mp h2
        constructor
        · intro hf
          have hx := hf x ((L.keys x).mpr (by simp))
          rcases List.mem_cons.mp hno with e | e
          · simp [e]
          · exact absurd (hp.1 n e) (by simpa using hx)
        · intro hx m hm
          have hx' : x = n := by simpa using hx
          subst hx'
          rcases List.mem_cons.mp ((L.keys m).mp hm) with e | e
          · subst e; simp
          · have := hp.1 m e
            simp; omega
      have e3 : law_first_wrong_q2 (sD es) (.tup [.int (k : Int), lineD (w, n)]) = .ok (if o.head? = some n then .inl (sD (sDel es n)) else .inr (.ret (.int (k : Int)))) := by
        unfold law_first_wrong_q2
        rw [e0]
        simp -implicitDefEqProofs only [Res.bind_ok, opEq_s, hw, decide_true, if_true, keys_sD]
        rw [hw] at e1
        rw [show compO (fun d3 => law_first_wrong_q1 (sD es) (.int (k : Int), .str ("evict" : Str), .str n) d3) ((es.map (·.1)).map .str) = _ from e1]
        simp -implicitDefEqProofs only [Res.bind_ok, e2]
        by_cases hh : o.head? = some n
        · rw [if_pos hh, decide_eq_true (hkey.mpr hh)]
          simp -implicitDefEqProofs only [Bool.not_true, Bool.false_eq_true, if_false, e5, Res.bind_ok]
        · rw [if_neg hh, decide_eq_false (fun e => hh (hkey.mp e))]
          rfl
      rw [e3, Res.bind_ok]
      unfold fwF
      by_cases hh : o.head? = some n
      · have : ¬ ((w, n).1 = ("evict" : Str) ∧ o.head? ≠ some (w, n).2) := fun e => e.2 hh
        rw [if_pos hh, if_neg this]
        exact ih
      · have : ((w, n).1 = ("evict" : Str) ∧ o.head? ≠ some (w, n).2) := ⟨hw, hh⟩
        rw [if_neg hh, if_pos this]
        exact ⟨_, rfl, rfl⟩
    · have hae : aft o (w, n) = o.filter (fun m => !(m == n)) ++ [n] := by unfold aft; rw [if_neg hw]
      have ih := lfw_loop ls (k + 1) (aft o (w, n)) c' d (sPut es n (.int (k : Int))) hr hcn' (aft_mem hs ho) (by rw [hae]; exact las_put L n) (by omega)
      have hdl : es.length < 10 ^ 6 := by omega
      have e3 : law_first_wrong_q2 (sD es) (.tup [.int (k : Int), lineD (w, n)]) = .ok (.inl (sD (sPut es n (.int (k : Int))))) := by
        unfold law_first_wrong_q2
        rw [e0]
        simp -implicitDefEqProofs only [Res.bind_ok, opEq_s, hw, decide_false, Bool.false_eq_true, if_false, dputR_s _ _ _ hdl]
      rw [e3, Res.bind_ok]
      unfold fwF
      have : ¬ ((w, n).1 = ("evict" : Str) ∧ o.head? ≠ some (w, n).2) := fun e => hw e.1
      rw [if_neg this]
      exact ih
theorem lfw_ok {ls : List (Str × Str)} {d : List Str} (h : PL.run [] ls = some d) (hl : ls.length ≤ 1000) : m_law_first_wrong (logD ls) = .ok (jD (fwF 0 [] ls)) := by
  obtain ⟨z, e, hz⟩ := lfw_loop ls 0 [] [] d [] h (fun m hm => absurd hm (by simp)) (fun m => Iff.rfl) ⟨fun m => by simp, List.nodup_nil, by simp, fun _ => 0, fun m hm => absurd hm (by simp), .nil, fun m hm => absurd hm (by simp)⟩ (by omega)
  unfold m_law_first_wrong
  simp -implicitDefEqProofs only [Res.bind_ok]
  rw [enumD_eq]
  have e' : forD (fun b1 d10 => law_first_wrong_q2 b1 d10) (enumF 0 (logD ls)) [] = .ok z := e
  rw [e', Res.bind_ok]
  cases hf : fwF 0 [] ls with
  | none => rw [hf] at hz; obtain ⟨b, rfl⟩ := hz; rfl
  | some j => rw [hf] at hz; subst hz; rfl
end PL
namespace PL
open PySem L2 G M
theorem law_log_ok2 {n most : Int} {p : List D} (hp : PO n p) (hn : n ≤ 10 ^ 8) (h0 : 0 ≤ most) (h1 : most ≤ 1000) : ∃ ls c p', m_law_log (p, .int most) = .ok (logD ls, p') ∧ run [] ls = some c ∧ ls.length ≤ most.toNat ∧ PO (n + 10 ^ 4) p' ∧ ∀ l ∈ ls, l.2 ∈ names := by
  obtain ⟨r, p1, e1, r0, r1, hp1⟩ := drawP (many := most + 1) hp (by omega) (by omega) (by omega)
  obtain ⟨ys, p2, e2, pm, hp2⟩ := shuffled_ok (xs := names.map .str) hp1 (by simp [names]; omega) (by simp [names])
  obtain ⟨zs, rfl, pz⟩ := perm_strs pm
  have hl40 : (names.map D.str).length = 40 := by simp [names]
  rw [hl40] at hp2
  obtain ⟨k, p3, e3, k0, k1, hp3⟩ := drawP (many := 3) hp2 (by omega) (by omega) (by omega)
  obtain ⟨w, hw, e4⟩ : ∃ w : Int, (1 ≤ w ∧ w ≤ 40) ∧ opIx (.list [D.int 4, D.int 8, D.int 40]) (.int k) = .ok (.int w) := by
    have : k = 0 ∨ k = 1 ∨ k = 2 := by omega
    rcases this with rfl | rfl | rfl
    · exact ⟨4, by omega, rfl⟩
    · exact ⟨8, by omega, rfl⟩
    · exact ⟨40, by omega, rfl⟩
  obtain ⟨v, p4, e5, v0, v1, hp4⟩ := drawP (many := w) hp3 (by omega) (by omega) (by omega)
  obtain ⟨lo, p5, e6, lo0, lo1, hp5⟩ := drawP (many := 4) hp4 (by omega) (by omega) (by omega)
  obtain ⟨hi, p6, e7, hi0, hi1, hp6⟩ := drawP (many := 4) hp5 (by omega) (by omega) (by omega)
  have hcut : cutD (zs.map D.str) none (some (1 + v)) = (zs.take (1 + v).toNat).map .str := by
    rw [cutD_to (by omega), List.map_take]
  have hzn : ∀ m ∈ zs.take (1 + v).toNat, nameB m = true := fun m hm => List.all_eq_true.mp names_ok2 m (pz.mem_iff.mp (List.mem_of_mem_take hm))
  have hzl : (zs.take (1 + v).toNat).length ≤ 10 ^ 4 := by
    rw [List.length_take]; omega
  have hzne : zs.take (1 + v).toNat ≠ [] := by
    have := pz.length_eq
    have h40 : names.length = 40 := rfl
    intro e
    have := congrArg List.length e
    rw [List.length_take] at this
    simp only [List.length_nil] at this
    omega
  have hzm : ∀ m ∈ zs.take (1 + v).toNat, m ∈ names := fun m hm => pz.mem_iff.mp (List.mem_of_mem_take hm)
  generalize zs.take (1 + v).toNat = ch at hcut hzn hzl hzne hzm
  obtain ⟨b, e8, ls, c, p', rfl, hp', hrun, hlen, hcc, hall⟩ := foldR_inv (f := law_log_q2 (ch.map .str, p4) (.int (1 + lo), p5) (.int hi, p6)) (xs := rngD 0 r) (b := (p6, [], []))
    (fun d1 b => ∃ ls c p', b = (p', logD ls, c.map .str) ∧ PO (n + 50 + 2 * d1.length) p' ∧ run [] ls = some c ∧ ls.length = d1.length ∧ (∀ m ∈ c, m ∈ ch) ∧ ∀ l ∈ ls, l.2 ∈ ch)
    ⟨[], [], p6, rfl, hp6.mono (by simp; omega), rfl, rfl, fun m hm => (nomatch hm), fun m hm => (nomatch hm)⟩
    (fun d1 x d2 b hx ⟨ls, c, p', hb, hpo, hr, hl, hcc, hall⟩ => by
      subst hb
      have hl2 : d1.length ≤ 1000 := by
        have := congrArg List.length hx
        rw [rngD_len, List.length_append] at this
        omega
      obtain ⟨q, l, c', e, g1, g2, g3⟩ := log_step (n := n + 50 + 2 * d1.length) (lo := 1 + lo) (hi := hi) (x := p4) (y := p5) (z := p6) (d := x) hzn hzl hzne hr hcc (by omega) hpo (by omega) (by omega) (by omega) hi0 (by omega)
      exact ⟨_, e, ls ++ [l], c', q, rfl, g1.mono (by simp; omega), g2, by simp [hl], g3, fun y hy => by
        rcases List.mem_append.mp hy with hy | hy
        · exact hall y hy
        · rw [List.mem_singleton.mp hy]
          have hst : stp c l = some c' := by
            rw [run_app, hr] at g2
            have g2' : PL.run c [l] = some c' := g2
            unfold PL.run at g2'
            rw [List.foldlM_cons] at g2'
            cases hs : stp c l with
            | none => rw [hs] at g2'; cases g2'
            | some c2 => rw [hs] at g2'; exact g2'
          obtain ⟨_, ⟨_, _, rfl⟩ | ⟨_, h, _⟩ | ⟨_, h, _⟩⟩ := stp_cases hst
          · exact g3 _ (by simp)
          · exact hcc _ h
          · exact hcc _ h⟩)
  have hrl : (rngD 0 r).length = r.toNat := rngD_len
  refine ⟨ls, c, p', ?_, hrun, by omega, hp'.mono (by omega), fun l hl => hzm _ (hall l hl)⟩
  have hin : inR r = true := inR_small r0 (by omega)
  unfold m_law_log
  simp -implicitDefEqProofs only [Res.bind_ok, opB_add, e1, names_ok, e2, e3, e4, e5, intD, hcut, e6, e7, hin, if_true]
  rw [e8]
  rfl
end PL
namespace K07
open PySem L2 G M PL
theorem opRepr_log {ls : List (Str × Str)} {d : List Str} (h : PL.run [] ls = some d) (hl : ls.length ≤ 1000) : ∃ s, opRepr [.list (logD ls)] = .ok (.str s) :=
  ⟨_, repr_list (fun x hx => by
    obtain ⟨l, hl', rfl⟩ := List.mem_map.mp hx
    obtain ⟨a, b⟩ := run_words h l hl'
    exact (fin1 a b).2.1) (by simp [logD]; omega)⟩
theorem fwF_lt : ∀ (ls : List (Str × Str)) (k : Nat) (o : List Str) (j : Nat), fwF k o ls = some j → j < k + ls.length
  | [], _, _, _, h => by simp [fwF] at h
  | l :: ls, k, o, j, h => by
    unfold fwF at h
    split at h
    · cases h; simp
    · have := fwF_lt ls _ _ _ h; simp; omega
theorem jD_leaf {ls : List (Str × Str)} (hl : ls.length ≤ 1000) : leafOk (jD (fwF 0 [] ls)) = true := by
  cases h : fwF 0 [] ls with
  | none => exact leafOk_S leafS_non
  | some j => exact leafOk_nat (by have := fwF_lt _ _ _ _ h; omega)
theorem right_ok {ls : List (Str × Str)} {d : List Str} (h : PL.run [] ls = some d) (hl : ls.length ≤ 40) : m_law_right_v3 (logD ls) = .ok (.bl true) := by
  obtain ⟨s, e1⟩ := opRepr_log h (by omega)
  have hj := jD_leaf (ls := ls) (by omega)
  obtain ⟨t, e2⟩ : ∃ t, opRepr [.list [jD (fwF 0 [] ls), jD (fwF 0 [] ls)]] = .ok (.str t) := ⟨_, repr_list (fun x hx => by
    rcases List.mem_cons.mp hx with rfl | hx
    · exact hj
    · rw [List.mem_singleton.mp hx]; exact hj) (by simp)⟩
  unfold m_law_right_v3
  simp -implicitDefEqProofs only [Res.bind_ok, e1, lfw_ok h (show ls.length ≤ 1000 by omega), fw_ok h hl, e2, opEq_s, andR, decide_true, if_true, Res.map]
theorem ne_log {ls : List (Str × Str)} {d : List Str} (h : PL.run [] ls = some d) : opC .NotEq (.list (logD ls)) (.list []) = .ok (!decide (ls = [])) :=
  opNe_of (okEq_list fun x hx => by
    obtain ⟨l, hl', rfl⟩ := List.mem_map.mp hx
    obtain ⟨a, b⟩ := run_words h l hl'
    exact (fin2 a b).1) (okEq_list fun x hx => absurd hx (by simp)) (by rw [decide_eq_true_iff]; unfold logD; simp)
def str1 : Str := ("strange" : Str)
theorem str_nm : nameB str1 = true := by decide +kernel
theorem str_ni : str1 ∉ names := by decide +kernel
theorem stp_str {c c' : List Str} {l : Str × Str} (h : stp c l = some c') (hl : l.2 ∈ names) : stp (str1 :: c) l = some (str1 :: c') := by
  have hne : l.2 ≠ str1 := fun e => str_ni (e ▸ hl)
  obtain ⟨hn, ⟨hw, hni, rfl⟩ | ⟨hw, hni, rfl⟩ | ⟨hw, hni, rfl⟩⟩ := stp_cases h
  · unfold stp
    simp [hn, hw, hni, hne]
  · unfold stp
    have : ¬ ("hit" : Str) = ("load" : Str) := hl_ne
    simp [hn, hw, hni, this]
  · unfold stp
    have h1 : ¬ ("evict" : Str) = ("load" : Str) := el_ne
    have h2 : ¬ ("evict" : Str) = ("hit" : Str) := fun e => he_ne e.symm
    have h3 : (!(str1 == l.2)) = true := by simpa using fun e => hne e.symm
    simp [hn, hw, hni, h1, h2, List.filter_cons, h3]
theorem run_str : ∀ {ls : List (Str × Str)} {c d : List Str}, PL.run c ls = some d → (∀ l ∈ ls, l.2 ∈ names) → PL.run (str1 :: c) ls = some (str1 :: d)
  | [], c, d, h, _ => by cases h; rfl
  | l :: ls, c, d, h, hn => by
    obtain ⟨e, hs, hr⟩ := run_cons h
    unfold PL.run
    rw [List.foldlM_cons, stp_str hs (hn l (by simp))]
    exact run_str hr fun y hy => hn y (by simp [hy])
theorem run_wrap {ls : List (Str × Str)} {d : List Str} (h : PL.run [] ls = some d) (hn : ∀ l ∈ ls, l.2 ∈ names) : ∃ e, PL.run [] ((("load" : Str), str1) :: ls ++ [(("evict" : Str), str1)]) = some e := by
  refine ⟨(str1 :: d).filter (fun m => !(m == str1)), ?_⟩
  have h1 : stp [] (("load" : Str), str1) = some [str1] := by unfold stp; simp [str_nm]
  have h2 : stp (str1 :: d) (("evict" : Str), str1) = some ((str1 :: d).filter fun m => !(m == str1)) := by
    unfold stp
    have h1 : ¬ ("evict" : Str) = ("load" : Str) := el_ne
    have h2 : ¬ ("evict" : Str) = ("hit" : Str) := fun e => he_ne e.symm
    simp [str_nm, h1, h2]
  rw [run_app]
  have h3 : PL.run [] ((("load" : Str), str1) :: ls) = some (str1 :: d) := by
    unfold PL.run
    rw [List.foldlM_cons, h1]
    exact run_str h hn
  rw [h3]
  show PL.run (str1 :: d) [_] = _
  unfold PL.run
  rw [List.foldlM_cons, h2]
  rfl
theorem q1_ok {p : List D} {n : Int} (hp : PO n p) (hn : n ≤ 10 ^ 7) (d : D) : ∃ p', law_v3_q1 p d = .ok (.inl p') ∧ PO (n + 2 * 10 ^ 6) p' := by
  obtain ⟨r, p1, e1, r0, r1, hp1⟩ := drawP (many := 2) hp (by omega) (by omega) (by omega)
  obtain ⟨w, hw, e2⟩ : ∃ w : Int, (8 ≤ w ∧ w ≤ 40) ∧ opIx (.list [D.int 8, D.int 40]) (.int r) = .ok (.int w) := by
    have : r = 0 ∨ r = 1 := by omega
    rcases this with rfl | rfl
    · exact ⟨8, by omega, rfl⟩
    · exact ⟨40, by omega, rfl⟩
  obtain ⟨ls, c, p2, e3, hr, hl, hp2, hall⟩ := law_log_ok2 (most := w) hp1 (by omega) (by omega) (by omega)
  have hl40 : ls.length ≤ 40 := by omega
  obtain ⟨hs, o, p3, e4, H, hh, hp3⟩ := law_filled_ok hr (by omega) hp2 (by omega)
  have e5 : cutD (logD hs) none (some 40) = logD (hs.take 40) := by rw [cutD_to (by omega)]; exact logD_take hs 40
  obtain ⟨d4, hr4⟩ := run_take H.rh 40
  have hl4 : (hs.take 40).length ≤ 40 := by rw [List.length_take]; omega
  have e6 := right_ok hr hl40
  have e7 := right_ok hr4 hl4
  have e8 := fw_ok hr4 hl4
  rw [fwF_take H.rule 40] at e8
  have e9 := ne_log hr
  refine ⟨p3, ?_, hp3.mono (by omega)⟩
  unfold law_v3_q1
  simp -implicitDefEqProofs only [Res.bind_ok, e1, e2, e3, e4, intD, e5, e6, e7, e8, truth_bl, orR, Res.map, Bool.not_true, Bool.false_eq_true, if_false, jD]
  have hin : opC .IsNot D.non D.non = .ok false := rfl
  simp -implicitDefEqProofs only [hin, Res.bind_ok, Bool.false_eq_true, if_false, e9]
  by_cases hne : ls = []
  · simp [hne]
  · have e10 : opPop (logD ls) [] = .ok (lineD (ls.getLast hne), logD ls.dropLast) := opPop_map hne
    have hdl : ls.dropLast.length ≤ 39 := by rw [List.length_dropLast]; omega
    obtain ⟨d5, hr5⟩ := run_take hr (ls.length - 1)
    rw [← List.dropLast_eq_take] at hr5
    have hall5 : ∀ l ∈ ls.dropLast, l.2 ∈ names := fun l hl => hall l ((List.dropLast_sublist ls).subset hl)
    obtain ⟨d6, hr6⟩ := run_wrap hr5 hall5
    have e11 := right_ok hr5 (by omega)
    have e12 : opInsert (logD ls.dropLast) [.int 0, .tup [.str ("load" : Str), .str ("strange" : Str)]] = .ok (.non, logD ((("load" : Str), str1) :: ls.dropLast)) := by
      have h1 : (logD ls.dropLast).length < sizeLine ∧ (0 : Int) ≤ 0 ∧ (0 : Int) < 2 ^ 63 := ⟨by simp only [logD, List.length_map]; exact Nat.lt_of_le_of_lt hdl (by decide), by omega, by decide⟩
      have e : ∀ y : D, opInsert (logD ls.dropLast) [.int 0, y] = if (logD ls.dropLast).length < sizeLine ∧ (0 : Int) ≤ 0 ∧ (0 : Int) < 2 ^ 63 then .ok (.non, ((logD ls.dropLast).take (0 : Int).toNat ++ [y] ++ (logD ls.dropLast).drop (0 : Int).toNat)) else .bad := fun y => rfl
      rw [e, if_pos h1]
      rfl
    have e13 : opAppend (logD ((("load" : Str), str1) :: ls.dropLast)) [.tup [.str ("evict" : Str), .str ("strange" : Str)]] = .ok (.non, logD ((("load" : Str), str1) :: ls.dropLast ++ [(("evict" : Str), str1)])) := by
      rw [append_ok' (by simp only [logD, List.length_map, List.length_cons]; exact Nat.lt_of_le_of_lt (show _ ≤ 40 by omega) (by decide))]
      simp [logD, lineD, str1]
    have e0 : tup2 (lineD (ls.getLast hne)) = .ok (.str (ls.getLast hne).1, .str (ls.getLast hne).2) := rfl
    simp -implicitDefEqProofs only [decide_eq_false hne, Bool.not_false, if_true, e10, Res.bind_ok, e0, e11, truth_bl, Res.map, Bool.not_true, Bool.false_eq_true, if_false, e12, e13, opLen_list, opLe_i, andR]
    by_cases h40 : (((logD ((("load" : Str), str1) :: ls.dropLast ++ [(("evict" : Str), str1)])).length : Nat) : Int) ≤ 40
    · have e14 := right_ok hr6 (by simp only [logD, List.length_map] at h40; omega)
      simp -implicitDefEqProofs only [h40, decide_true, if_true, e14, Res.bind_ok, truth_bl, Res.map, Bool.not_true, Bool.false_eq_true, if_false]
    · simp -implicitDefEqProofs only [h40, decide_false, Bool.false_eq_true, if_false, Res.bind_ok]
theorem q2_ok (ns : List Int) {at_ : Int} (h0 : 0 ≤ at_) (h1 : at_ < 1000) : law_v3_q2 (ns.map .int) () (.int at_) = .ok (.inl ()) := by
  obtain ⟨p0, p1, e, g1, g2, g3⟩ := pool_ok ns h0 h1
  have hp : PO 0 [.int p0, .int p1, .int 0] := ⟨p0, p1, 0, rfl, g1, g2, g3, by omega, by omega⟩
  obtain ⟨b, e2, hb⟩ := forD_inv (f := law_v3_q1) (xs := rngD 0 6) (b := [.int p0, .int p1, .int 0]) (fun d1 b => PO (2 * 10 ^ 6 * d1.length) b) (by simpa using hp) (fun d1 x d2 b hx hb => by
    have h6 : (rngD 0 6).length = 6 := rngD_len
    have hl : d1.length < 6 := by rw [hx] at h6; simp at h6; omega
    obtain ⟨p', e, hp'⟩ := q1_ok hb (by omega) x
    exact ⟨p', e, hp'.mono (by simp; omega)⟩)
  unfold law_v3_q2
  simp -implicitDefEqProofs only [Res.bind_ok, e, intD, inR_small (show (0:Int) ≤ 6 by decide) (show (6:Int) ≤ 10 ^ 6 by decide), if_true]
  rw [show forD (fun b1 d2 => law_v3_q1 b1 d2) (rngD 0 6) [.int p0, .int p1, .int 0] = _ from e2]
  rfl
theorem turns6 (n : Nat) : ∃ k : Int, (opMin [.int 6, .int (n : Int)]).bind (fun a => opMax [.int 1, a]) = .ok (.int k) ∧ 0 ≤ k ∧ k ≤ 6 := by
  simp only [opMin, opMax, Res.bind_ok]
  refine ⟨_, rfl, ?_, ?_⟩ <;> (repeat' split) <;> omega
theorem end1 : m_first_wrong [] = .ok .non := by kernel_rfl
theorem end2 : m_first_wrong [.tup [.str ("load" : Str), .str ("a" : Str)], .tup [.str ("load" : Str), .str ("b" : Str)], .tup [.str ("evict" : Str), .str ("b" : Str)]] = .ok (.int 2) := by kernel_rfl
theorem law_ok (ns : List Int) (h : ns.length ≤ 63) : m_law_v3 (ns.map .int) = .ok (.bl true) := by
  obtain ⟨k, hk, h0, h1⟩ := turns6 (ns.length)
  rw [show ((ns.length : Nat) : Int) = (((ns.map D.int).length : Nat) : Int) by simp] at hk
  have e1 : forD (law_v3_q2 (ns.map .int)) (rngD 0 k) () = .ok (.inl ()) := forD_unit fun x hx => by
    obtain ⟨i, rfl, g0, g1⟩ := mem_rngD hx
    exact q2_ok ns g0 (by omega)
  unfold m_law_v3
  simp -implicitDefEqProofs only [Res.bind_ok, hk, intD, inR_small h0 (show k ≤ 10 ^ 6 by omega), if_true]
  rw [show forD (fun b75 d76 => law_v3_q2 (ns.map .int) b75 d76) (rngD 0 k) () = _ from e1]
  have hi : opC .Is D.non D.non = .ok true := rfl
  have h2 : opC .Eq (.int 2) (.int 2) = .ok true := rfl
  simp -implicitDefEqProofs only [Res.bind_ok, Res.bind_id, endR, end1, hi, andR, if_true, end2, h2, Res.map]
end K07
open PySem PySem.W PyProof.Rows
set_option maxRecDepth 100000 in
set_option maxHeartbeats 0 in
theorem PySem.Challenge.cw_hiddenhits_k07_first_wrong_eviction_holds : PySem.Challenge.rw_hiddenhits_k07_first_wrong_eviction.Holds := by
  w_on; o_law; k_head; (case hw => w_witness2)
  k_fill
  refine G.walkG (l := PySem.Challenge.rw_hiddenhits_k07_first_wrong_eviction) (k := 7) (y := "script") (m := M.m_law_v3) rfl (by decide) rfl ⟨rfl, by decide, by decide⟩ (fun w h Y => PySem.W.kIn_of Y) ?F K07.law_ok
  case F =>
    intro w mg fa h KX G hmg
    refine' K07.all_mk KX G hmg ?z_abs ?z_all ?z_enumerate ?z_isinstance ?z_len ?z_list ?z_max ?z_min ?z_range ?z_repr ?z_sorted ?z_str ?z_tuple ?g_EVICT_histories ?g_EVICT_logs ?g_HIT ?g_LETTERS ?g_LOAD ?g_MOST_LETTERS ?g_MOST_LINES ?xa_InvalidLog ?xe_InvalidLog ?xk_InvalidLog ?xs_InvalidLog ?xt_InvalidLog ?a__law_pool ?l__law_pool ?c__law_pool ?k__law_pool' ?a__law_draw ?l__law_draw ?c__law_draw ?k__law_draw' ?a__law_names ?l__law_names ?c__law_names ?k__law_names' ?a__law_shuffled ?l__law_shuffled ?c__law_shuffled ?k__law_shuffled' ?a__law_log ?l__law_log ?c__law_log ?k__law_log' ?a__law_filled ?l__law_filled ?c__law_filled ?k__law_filled' ?a__law_first_wrong ?l__law_first_wrong ?c__law_first_wrong ?k__law_first_wrong' ?a_is_name ?l_is_name ?c_is_name ?k_is_name' ?a_is_line ?l_is_line ?c_is_line ?k_is_line' ?a_cached_behind ?l_cached_behind ?c_cached_behind ?k_cached_behind' ?lT_cached_behind ?e_cached_behind_1 ?a_is_log ?l_is_log ?c_is_log ?k_is_log' ?a_require_log ?l_require_log ?c_require_log ?k_require_log' ?a_after_line ?l_after_line ?c_after_line ?k_after_line' ?a_first_wrong_in ?l_first_wrong_in ?c_first_wrong_in ?k_first_wrong_in' ?a_first_wrong ?l_first_wrong ?c_first_wrong ?k_first_wrong' ?a__law_right ?l__law_right ?c__law_right ?k__law_right' ?a_law ?l_law ?c_law ?k_law'
    (case z_abs => k_is); (case z_all => k_is); (case z_enumerate => k_is); (case z_isinstance => k_is); (case z_len => k_is); (case z_list => k_is)
    (case z_max => k_is); (case z_min => k_is); (case z_range => k_is); (case z_repr => k_is); (case z_sorted => k_is); (case z_str => k_is)
    (case z_tuple => k_is); (case g_EVICT_histories => k_is); (case g_EVICT_logs => k_is); (case g_HIT => k_is); (case g_LETTERS => k_is); (case g_LOAD => k_is)
    (case g_MOST_LETTERS => k_is); (case g_MOST_LINES => k_is); (case xa_InvalidLog => k_is); (case xe_InvalidLog => k_exc); (case xk_InvalidLog => k_is); (case xs_InvalidLog => k_is)
    (case xt_InvalidLog => k_is); (case a__law_pool => k_is); (case l__law_pool => k_is); (case c__law_pool => k_is); (case k__law_pool' => k_is); (case a__law_draw => k_is)
    (case l__law_draw => k_is); (case c__law_draw => k_is); (case k__law_draw' => k_is); (case a__law_names => k_is); (case l__law_names => k_is); (case c__law_names => k_is)
    (case k__law_names' => k_is); (case a__law_shuffled => k_is); (case l__law_shuffled => k_is); (case c__law_shuffled => k_is); (case k__law_shuffled' => k_is); (case a__law_log => k_is)
    (case l__law_log => k_is); (case c__law_log => k_is); (case k__law_log' => k_is); (case a__law_filled => k_is); (case l__law_filled => k_is); (case c__law_filled => k_is)
    (case k__law_filled' => k_is); (case a__law_first_wrong => k_is); (case l__law_first_wrong => k_is); (case c__law_first_wrong => k_is); (case k__law_first_wrong' => k_is); (case a_is_name => k_is)
    (case l_is_name => k_is); (case c_is_name => k_is); (case k_is_name' => k_is); (case a_is_line => k_is); (case l_is_line => k_is); (case c_is_line => k_is)
    (case k_is_line' => k_is); (case a_cached_behind => k_is); (case l_cached_behind => k_is); (case c_cached_behind => k_is); (case k_cached_behind' => k_is); (case lT_cached_behind => k_is)
    (case e_cached_behind_1 => k_is); (case a_is_log => k_is); (case l_is_log => k_is); (case c_is_log => k_is); (case k_is_log' => k_is); (case a_require_log => k_is)
    (case l_require_log => k_is); (case c_require_log => k_is); (case k_require_log' => k_is); (case a_after_line => k_is); (case l_after_line => k_is); (case c_after_line => k_is)
    (case k_after_line' => k_is); (case a_first_wrong_in => k_is); (case l_first_wrong_in => k_is); (case c_first_wrong_in => k_is); (case k_first_wrong_in' => k_is); (case a_first_wrong => k_is)
    (case l_first_wrong => k_is); (case c_first_wrong => k_is); (case k_first_wrong' => k_is); (case a__law_right => k_is); (case l__law_right => k_is); (case c__law_right => k_is)
    (case k__law_right' => k_is); (case a_law => k_is); (case l_law => k_is); (case c_law => k_is); (case k_law' => k_is)
