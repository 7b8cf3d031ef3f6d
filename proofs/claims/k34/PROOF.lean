import PyProof.Rows.All
import Wide.All
import OpenK.AllK
import Wide.FinOn
import HandS.ForMost
import HandS.Exc
import HandS.ExcOwn
import HandS.WordsExc
import HandS.TryOnly
import HandS.Deep
import HandS.Wide
import HandS.IsInst
import HandS.EndBits
import PySem.Challenge.RW_cratefit_k34_papers_looked_at
set_option Elab.async false
set_option linter.all false
set_option autoImplicit false
set_option maxRecDepth 100000
set_option maxHeartbeats 4000000
/-! Plain data over the hand layer: what a value is worth (D), how it lies (Rep), slots that hold plain, owned or loaned things (Rl). -/
namespace L2.Pd
open PySem PySem.Spec PyProof.Rows

inductive D where
  | non | bl (b : Bool) | int (i : Int) | str (x : Str) | lst (l : List D) | tup (l : List D) | dic (ks : List Int) (vs : List D) | obj (c : Str) (ns : List Str) (vs : List D)

/-- what a thing ends in -/
inductive Rs (α : Type) where
  | ok (a : α) | exc (c : Str) (ns : List Str) (vs : List D) | bad
abbrev R := Rs D
@[reducible] def Rs.bind {α β : Type} (r : Rs α) (f : α → Rs β) : Rs β := match r with
  | .ok a => f a
  | .exc c ns vs => .exc c ns vs
  | .bad => .bad
abbrev Sl := List (Option D)
/-- what a statement ends in -/
inductive Out where
  | nx (ρ : Sl) | ret (d : D) | brk (ρ : Sl) | cont (ρ : Sl) | exc (c : Str) (ns : List Str) (vs : List D) (ρ : Sl) | bad

mutual
inductive Rep (K : PySem.W.Frag) (F : Hp) : V → D → Prop
  | non : Rep K F .non .non
  | bl (b : Bool) : Rep K F (.bl b) (.bl b)
  | int (i : Int) : Rep K F (.int i) (.int i)
  | str (x : Str) : Rep K F (.str x) (.str x)
  | lst {a : Addr} {xs : List V} {ds : List D} : SqL K F a xs → Reps K F xs ds → Rep K F (.ref a) (.lst ds)
  | tup {a : Addr} {xs : List V} {ds : List D} : SqT K F a xs → Reps K F xs ds → Rep K F (.ref a) (.tup ds)
  | dic {a : Addr} {kvs : List (Key × V)} {ks : List Int} {ds : List D} : F a = some (.dK kvs) → kvs.map (·.1) = ks.map Sum.inl → Reps K F (kvs.map (·.2)) ds → Rep K F (.ref a) (.dic ks ds)
inductive Reps (K : PySem.W.Frag) (F : Hp) : List V → List D → Prop
  | nil : Reps K F [] []
  | cons {v : V} {vs : List V} {d : D} {ds : List D} : Rep K F v d → Reps K F vs ds → Reps K F (v :: vs) (d :: ds)
end

theorem Same.sqt {K : PySem.W.Frag} {H H' : Hp} {a : Addr} {xs : List V} (e : Same H H') (h : SqT K H a xs) : SqT K H' a xs := by
  rcases h with (h | ⟨o, h⟩) | h
  · exact .inl (.inl (e _ _ h))
  · exact .inl (.inr ⟨o, e _ _ h⟩)
  · exact .inr h
/-- what the body may not change; where the loaned slots' lists stand -/
structure Bs where
  hp : Hp
  la : Nat → Addr
section
variable {K : PySem.W.Frag} {F F' H H' : Hp} {B : Bs}
mutual
theorem Rep.mono (s : Same F F') : ∀ {v : V} (d : D), Rep K F v d → Rep K F' v d
  | _, .non, h => by cases h; exact .non
  | _, .bl b, h => by cases h; exact .bl b
  | _, .int i, h => by cases h; exact .int i
  | _, .str x, h => by cases h; exact .str x
  | _, .lst ds, h => by
    cases h with
    | lst h1 h2 => exact .lst (s.seq h1) (Reps.mono s ds h2)
  | _, .tup ds, h => by
    cases h with
    | tup h1 h2 => exact .tup (Same.sqt s h1) (Reps.mono s ds h2)
  | _, .dic ks ds, h => by
    cases h with
    | dic h1 h2 h3 => exact .dic (s _ _ h1) h2 (Reps.mono s ds h3)
  | _, .obj c ns vs, h => by cases h
theorem Reps.mono (s : Same F F') : ∀ {vs : List V} (ds : List D), Reps K F vs ds → Reps K F' vs ds
  | _, [], h => by cases h; exact .nil
  | _, d :: ds, h => by
    cases h with
    | cons h1 h2 => exact .cons (Rep.mono s d h1) (Reps.mono s ds h2)
end
theorem Rep.up (s : Same F F') {v : V} {d : D} (h : Rep K F v d) : Rep K F' v d := Rep.mono s d h
theorem Reps.up (s : Same F F') {v : List V} {d : List D} (h : Reps K F v d) : Reps K F' v d := Reps.mono s d h
theorem Reps.length : ∀ {vs : List V} {ds : List D}, Reps K F vs ds → vs.length = ds.length
  | _, [], h => by cases h; rfl
  | _, d :: ds, h => by
    cases h with
    | cons h1 h2 => exact congrArg (· + 1) (Reps.length h2)
theorem Reps.get : ∀ {vs : List V} {ds : List D} {i : Nat} {d : D}, Reps K F vs ds → ds[i]? = some d → ∃ v, vs[i]? = some v ∧ Rep K F v d
  | _, [], _, _, _, e => by simp at e
  | _, d :: ds, 0, d', h, e => by
    cases h with
    | cons h1 h2 =>
      simp at e
      subst e
      exact ⟨_, rfl, h1⟩
  | _, d :: ds, i + 1, d', h, e => by
    cases h with
    | cons h1 h2 =>
      obtain ⟨v, q1, q2⟩ := Reps.get (i := i) (d := d') h2 (by simpa using e)
      exact ⟨v, by simpa using q1, q2⟩
theorem Reps.set : ∀ {vs : List V} {ds : List D} {i : Nat} {v : V} {d : D}, Reps K F vs ds → Rep K F v d → Reps K F (vs.set i v) (ds.set i d)
  | _, [], _, _, _, h, _ => by cases h; exact .nil
  | _, d :: ds, 0, _, _, h, r => by
    cases h with
    | cons h1 h2 => exact .cons r h2
  | _, d :: ds, i + 1, _, _, h, r => by
    cases h with
    | cons h1 h2 => exact .cons h1 (Reps.set h2 r)
theorem Reps.append : ∀ {vs ws : List V} {ds es : List D}, Reps K F vs ds → Reps K F ws es → Reps K F (vs ++ ws) (ds ++ es)
  | _, _, [], _, h, r => by cases h; exact r
  | _, _, d :: ds, _, h, r => by
    cases h with
    | cons h1 h2 => exact .cons h1 (Reps.append h2 r)
theorem Reps.take : ∀ {vs : List V} {ds : List D} (n : Nat), Reps K F vs ds → Reps K F (vs.take n) (ds.take n)
  | _, _, 0, _ => .nil
  | _, [], n + 1, h => by cases h; exact .nil
  | _, d :: ds, n + 1, h => by
    cases h with
    | cons h1 h2 => exact .cons h1 (Reps.take n h2)
theorem Reps.drop : ∀ {vs : List V} {ds : List D} (n : Nat), Reps K F vs ds → Reps K F (vs.drop n) (ds.drop n)
  | _, _, 0, h => h
  | _, [], n + 1, h => by cases h; exact .nil
  | _, d :: ds, n + 1, h => by
    cases h with
    | cons h1 h2 => exact Reps.drop n h2
theorem Reps.reverse : ∀ {vs : List V} {ds : List D}, Reps K F vs ds → Reps K F vs.reverse ds.reverse
  | _, [], h => by cases h; exact .nil
  | _, d :: ds, h => by
    cases h with
    | cons h1 h2 =>
      rw [List.reverse_cons, List.reverse_cons]
      exact Reps.append (Reps.reverse h2) (.cons h1 .nil)
theorem Reps.one {v : V} {d : D} (h : Rep K F v d) : Reps K F [v] [d] := .cons h .nil
theorem Reps.ints : ∀ {vs : List V} (ns : List Int), Reps K F vs (ns.map D.int) → vs = ns.map V.int
  | _, [], h => by cases h; rfl
  | _, n :: ns, h => by
    cases h with
    | cons h1 h2 =>
      cases h1
      rw [Reps.ints ns h2]
      rfl
theorem Reps.of_ints : ∀ (ns : List Int), Reps K F (ns.map V.int) (ns.map D.int)
  | [] => .nil
  | n :: ns => .cons (.int n) (Reps.of_ints ns)
theorem Reps.bls : ∀ {vs : List V} (ns : List Bool), Reps K F vs (ns.map D.bl) → vs = ns.map V.bl
  | _, [], h => by cases h; rfl
  | _, n :: ns, h => by
    cases h with
    | cons h1 h2 =>
      cases h1
      rw [Reps.bls ns h2]
      rfl

/-- all that was written stays; what is new in the frozen part was nothing's ahead -/
structure Ext (F H F' H' : Hp) : Prop where
  f : Same F F'
  h : Same H H'
  s : Same F' H'
  n : ∀ a o, F' a = some o → F a = some o ∨ H a = none
theorem Ext.refl (s : Same F H) : Ext F H F H := ⟨.refl _, .refl _, s, fun _ _ h => .inl h⟩
theorem Ext.trans {F1 H1 F2 H2 : Hp} (a : Ext F H F1 H1) (b : Ext F1 H1 F2 H2) : Ext F H F2 H2 :=
  ⟨a.f.trans b.f, a.h.trans b.h, b.s, fun c o e => by
    rcases b.n c o e with q | q
    · exact a.n c o q
    · exact .inr (a.h.free q)⟩
/-- a new object that is frozen at once -/
theorem Ext.new (s : Same F H) {p : Addr} {o : HO} (hp : H p = none) : Ext F H (upd F p o) (upd H p o) := by
  have fp : F p = none := s.free hp
  refine ⟨fun b u e => ?_, fun b u e => ?_, fun b u e => ?_, fun b u e => ?_⟩
  · rw [upd_ne (ne_of_none e fp)]; exact e
  · rw [upd_ne (ne_of_none e hp)]; exact e
  · by_cases hb : b = p
    · subst hb; rw [upd_same] at e ⊢; exact e
    · rw [upd_ne hb] at e ⊢; exact s _ _ e
  · by_cases hb : b = p
    · subst hb; exact .inr hp
    · rw [upd_ne hb] at e; exact .inl e
/-- a new object that is owned -/
theorem Ext.own (s : Same F H) {p : Addr} {o : HO} (hp : H p = none) : Ext F H F (upd H p o) := by
  refine ⟨.refl _, fun b u e => ?_, fun b u e => ?_, fun b u e => .inl e⟩
  · rw [upd_ne (ne_of_none e hp)]; exact e
  · have e' := s _ _ e
    rw [upd_ne (ne_of_none e' hp)]; exact e'
/-- an address that was the body's own stays out of the frozen part -/
theorem Ext.out (x : Ext F H F' H') {p : Addr} {o : HO} (h : H p = some o) (f : F p = none) : F' p = none := by
  cases e : F' p with
  | none => rfl
  | some u =>
    rcases x.n p u e with q | q
    · rw [f] at q; cases q
    · rw [h] at q; cases q

/-- what an owned (or loaned) slot's address holds -/
def Cell (K : PySem.W.Frag) (F H : Hp) (p : Addr) : D → Prop
  | .lst ds => ∃ vs, H p = some (.lst vs) ∧ Reps K F vs ds
  | .dic ks ds => ∃ kvs, H p = some (.dK kvs) ∧ kvs.map (·.1) = ks.map Sum.inl ∧ Reps K F (kvs.map (·.2)) ds
  | _ => False
theorem Cell.has {p : Addr} : ∀ {d : D}, Cell K F H p d → ∃ o, H p = some o
  | .lst _, ⟨_, h, _⟩ => ⟨_, h⟩
  | .dic _ _, ⟨_, h, _⟩ => ⟨_, h⟩
theorem Cell.up {p : Addr} (s : Same F F') (k : ∀ o, H p = some o → H' p = some o) : ∀ {d : D}, Cell K F H p d → Cell K F' H' p d
  | .lst _, ⟨_, h, r⟩ => ⟨_, k _ h, r.up s⟩
  | .dic _ _, ⟨_, h, e, r⟩ => ⟨_, k _ h, e, r.up s⟩
theorem Cell.rep {p : Addr} (s : Same F H) (fp : F p = none) : ∀ {d : D}, Cell K F H p d → ∃ o, H p = some o ∧ Rep K (upd F p o) (.ref p) d
  | .lst _, ⟨vs, h, r⟩ => ⟨_, h, .lst (.inl (.inl upd_same)) (r.up fun b u e => by rw [upd_ne (ne_of_none e fp)]; exact e)⟩
  | .dic _ _, ⟨vs, h, e, r⟩ => ⟨_, h, .dic upd_same e (r.up fun b u e => by rw [upd_ne (ne_of_none e fp)]; exact e)⟩

/-- slots and what they are worth. B: what the body may not change; F: the frozen part; o: slots that own their list or dict; l: loaned ones (their list stands in B for a while) -/
structure Rl (K : PySem.W.Frag) (o l : List Nat) (ρ : Sl) (σ : St) (B : Bs) (F H : Hp) : Prop where
  len : σ.length = ρ.length
  fh : Same F H
  bh : Same B.hp H
  val : ∀ i d, i ∉ o → i ∉ l → ρ[i]? = some (some d) → ∃ v, σ[i]? = some (some v) ∧ Rep K F v d
  own : ∀ i, i ∈ o → ∀ d, ρ[i]? = some (some d) → ∃ p, σ[i]? = some (some (.ref p)) ∧ F p = none ∧ B.hp p = none ∧ Cell K F H p d
  loan : ∀ i, i ∈ l → ∃ d, ρ[i]? = some (some d) ∧ σ[i]? = some (some (.ref (B.la i))) ∧ F (B.la i) = none ∧ Cell K F B.hp (B.la i) d
  sep : ∀ i, i ∈ o → ∀ j, j ∈ o → i ≠ j → ∀ d e p, ρ[i]? = some (some d) → ρ[j]? = some (some e) → σ[i]? = some (some (.ref p)) → σ[j]? ≠ some (some (.ref p))
theorem Rl.ext {o l : List Nat} {ρ : Sl} {σ : St} (r : Rl K o l ρ σ B F H) (x : Ext F H F' H') : Rl K o l ρ σ B F' H' where
  len := r.len
  fh := x.s
  bh := r.bh.trans x.h
  val := fun i d h1 h2 e => let ⟨v, e1, e2⟩ := r.val i d h1 h2 e; ⟨v, e1, e2.up x.f⟩
  own := fun i hi d e => by
    obtain ⟨p, e1, e2, e3, e4⟩ := r.own i hi d e
    obtain ⟨u, hu⟩ := Cell.has e4
    exact ⟨p, e1, x.out hu e2, e3, Cell.up x.f (fun o q => x.h _ _ q) e4⟩
  loan := fun i hi => by
    obtain ⟨d, e, e1, e2, e4⟩ := r.loan i hi
    obtain ⟨u, hu⟩ := Cell.has e4
    exact ⟨d, e, e1, x.out (r.bh _ _ hu) e2, Cell.up x.f (fun o q => q) e4⟩
  sep := r.sep
/-- against the entry -/
structure Kp (F0 : Hp) (B : Bs) (F : Hp) : Prop where
  f : Same F0 F
  n : ∀ a o, F a = some o → F0 a = some o ∨ B.hp a = none
theorem Kp.ext {F0 : Hp} (k : Kp F0 B F) (bh : Same B.hp H) (x : Ext F H F' H') : Kp F0 B F' :=
  ⟨k.f.trans x.f, fun a o e => by
    rcases x.n a o e with q | q
    · exact k.n a o q
    · exact .inr (bh.free q)⟩
/-- one slot gives up what it owns -/
theorem Rl.freeze {o l : List Nat} {ρ : Sl} {σ : St} {F0 : Hp} (r : Rl K o l ρ σ B F H) (k : Kp F0 B F) (i : Nat) : ∃ F', Rl K (o.filter (· ≠ i)) l ρ σ B F' H ∧ Kp F0 B F' ∧ Same F F' := by
  by_cases hi : i ∈ o
  · by_cases hd : ∃ d, ρ[i]? = some (some d)
    · obtain ⟨d, hd⟩ := hd
      obtain ⟨p, e1, e2, e3, e4⟩ := r.own i hi d hd
      obtain ⟨u, hu, hr⟩ := Cell.rep r.fh e2 e4
      have s : Same F (upd F p u) := fun b w e => by rw [upd_ne (ne_of_none e e2)]; exact e
      refine ⟨upd F p u, ⟨r.len, fun b w e => ?_, r.bh, fun j e h1 h2 q => ?_, fun j hj e q => ?_, fun j hj => ?_, fun a ha b hb => r.sep a (List.mem_filter.mp ha).1 b (List.mem_filter.mp hb).1⟩, ⟨k.f.trans s, fun b w e => ?_⟩, s⟩
      · by_cases hb : b = p
        · subst hb; rw [upd_same] at e; cases e; exact hu
        · rw [upd_ne hb] at e; exact r.fh _ _ e
      · by_cases hji : j = i
        · subst hji
          rw [hd] at q
          cases q
          exact ⟨_, e1, hr⟩
        · have h1' : j ∉ o := fun z => h1 (List.mem_filter.mpr ⟨z, by simpa using hji⟩)
          obtain ⟨v, q1, q2⟩ := r.val j e h1' h2 q
          exact ⟨v, q1, q2.up s⟩
      · obtain ⟨hj1, hj2⟩ := List.mem_filter.mp hj
        have hji : j ≠ i := by simpa using hj2
        obtain ⟨p', q1, q2, q3, q4⟩ := r.own j hj1 e q
        have np : p' ≠ p := fun z => r.sep i hi j hj1 (Ne.symm hji) d e p hd q e1 (by rw [← z]; exact q1)
        exact ⟨p', q1, by rw [upd_ne np]; exact q2, q3, Cell.up s (fun _ z => z) q4⟩
      · obtain ⟨e, q, q1, q2, q4⟩ := r.loan j hj
        obtain ⟨w, hw⟩ := Cell.has q4
        have np : B.la j ≠ p := fun z => by rw [z, e3] at hw; cases hw
        exact ⟨e, q, q1, by rw [upd_ne np]; exact q2, Cell.up s (fun _ z => z) q4⟩
      · by_cases hb : b = p
        · subst hb; exact .inr e3
        · rw [upd_ne hb] at e; exact k.n b w e
    · refine ⟨F, ⟨r.len, r.fh, r.bh, fun j e h1 h2 q => ?_, fun j hj => r.own j (List.mem_filter.mp hj).1, r.loan, fun a ha b hb => r.sep a (List.mem_filter.mp ha).1 b (List.mem_filter.mp hb).1⟩, k, .refl _⟩
      by_cases hji : j = i
      · subst hji; exact absurd ⟨e, q⟩ hd
      · exact r.val j e (fun z => h1 (List.mem_filter.mpr ⟨z, by simpa using hji⟩)) h2 q
  · have : o.filter (· ≠ i) = o := List.filter_eq_self.mpr fun j hj => by
      have : j ≠ i := fun z => hi (z ▸ hj)
      simpa using this
    rw [this]
    exact ⟨F, r, k, .refl _⟩
/-- slots o give up what they own, but for o' -/
theorem Rl.weak {l : List Nat} {ρ : Sl} {σ : St} {F0 : Hp} (k : Kp F0 B F) {o : List Nat} (r : Rl K o l ρ σ B F H) (ds : List Nat) : ∃ F', Rl K (o.filter (· ∉ ds)) l ρ σ B F' H ∧ Kp F0 B F' ∧ Same F F' := by
  induction ds with
  | nil =>
    have : o.filter (fun x => decide (x ∉ ([] : List Nat))) = o := List.filter_eq_self.mpr fun j hj => by simp
    rw [this]
    exact ⟨F, r, k, .refl _⟩
  | cons i ds ih =>
    obtain ⟨F1, r1, k1, s1⟩ := ih
    obtain ⟨F2, r2, k2, s2⟩ := r1.freeze k1 i
    have : (o.filter (fun x => decide (x ∉ ds))).filter (fun x => decide (x ≠ i)) = o.filter (fun x => decide (x ∉ i :: ds)) := by
      rw [List.filter_filter]
      refine List.filter_congr fun x hx => ?_
      by_cases h1 : x = i <;> by_cases h2 : x ∈ ds <;> simp [h1, h2]
    rw [this] at r2
    exact ⟨F2, r2, k2, s1.trans s2⟩
theorem Rl.all {o l : List Nat} {ρ : Sl} {σ : St} {F0 : Hp} (k : Kp F0 B F) (r : Rl K o l ρ σ B F H) : ∃ F', Rl K [] l ρ σ B F' H ∧ Kp F0 B F' ∧ Same F F' := by
  obtain ⟨F', r', k', s⟩ := r.weak k o
  have : o.filter (fun x => decide (x ∉ o)) = [] := List.filter_eq_nil_iff.mpr fun x hx => by simpa using hx
  rw [this] at r'
  exact ⟨F', r', k', s⟩
/-- a slot lends its list: it stands in what may not be changed -/
theorem Rl.lend {o l : List Nat} {ρ : Sl} {σ : St} {F0 : Hp} (r : Rl K o l ρ σ B F H) (k : Kp F0 B F) {i : Nat} (hi : i ∈ o) {d : D} (hd : ρ[i]? = some (some d)) :
    ∃ p u, σ[i]? = some (some (.ref p)) ∧ B.hp p = none ∧ F p = none ∧ H p = some u ∧ Cell K F H p d ∧ Rl K (o.filter (· ≠ i)) (i :: l.filter (· ≠ i)) ρ σ ⟨upd B.hp p u, fun j => if j = i then p else B.la j⟩ F H ∧ Kp F0 ⟨upd B.hp p u, fun j => if j = i then p else B.la j⟩ F := by
  obtain ⟨p, e1, e2, e3, e4⟩ := r.own i hi d hd
  obtain ⟨u, hu⟩ := Cell.has e4
  refine ⟨p, u, e1, e3, e2, hu, e4, ⟨r.len, r.fh, fun b w e => ?_, fun j e h1 h2 q => ?_, fun j hj e q => ?_, fun j hj => ?_, fun a ha b hb => r.sep a (List.mem_filter.mp ha).1 b (List.mem_filter.mp hb).1⟩, ⟨k.f, fun b w e => ?_⟩⟩
  · by_cases hb : b = p
    · subst hb
      have e : upd B.hp b u b = some w := e
      rw [upd_same] at e; cases e; exact hu
    · have e : upd B.hp p u b = some w := e
      rw [upd_ne hb] at e; exact r.bh _ _ e
  · have hji : j ≠ i := fun z => h2 (z ▸ List.mem_cons_self)
    exact r.val j e (fun z => h1 (List.mem_filter.mpr ⟨z, by simpa using hji⟩)) (fun z => h2 (List.mem_cons_of_mem _ (List.mem_filter.mpr ⟨z, by simpa using hji⟩))) q
  · obtain ⟨hj1, hj2⟩ := List.mem_filter.mp hj
    have hji : j ≠ i := by simpa using hj2
    obtain ⟨p', q1, q2, q3, q4⟩ := r.own j hj1 e q
    have np : p' ≠ p := fun z => r.sep i hi j hj1 (Ne.symm hji) d e p hd q e1 (by rw [← z]; exact q1)
    exact ⟨p', q1, q2, by show upd B.hp p u p' = none; rw [upd_ne np]; exact q3, q4⟩
  · by_cases hji : j = i
    · subst hji
      refine ⟨d, hd, ?_⟩
      dsimp only
      rw [if_pos rfl]
      refine ⟨e1, e2, Cell.up (H := H) (.refl _) (fun w hw => ?_) e4⟩
      rw [hu] at hw
      cases hw
      exact upd_same
    · dsimp only
      rw [if_neg hji]
      rcases List.mem_cons.mp hj with z | z
      · exact absurd z hji
      · obtain ⟨e, q, q1, q2, q4⟩ := r.loan j (List.mem_filter.mp z).1
        obtain ⟨w, hw⟩ := Cell.has q4
        have np : B.la j ≠ p := fun z => by rw [z, e3] at hw; cases hw
        exact ⟨e, q, q1, q2, Cell.up (.refl _) (fun w hw => by rw [upd_ne np]; exact hw) q4⟩
  · by_cases hb : b = p
    · subst hb; rw [e2] at e; cases e
    · show F0 b = some w ∨ upd B.hp p u b = none
      rw [upd_ne hb]
      exact k.n b w e
/-- .. and gets it back -/
theorem Rl.back {o l : List Nat} {ρ : Sl} {σ : St} {F0 : Hp} {i : Nat} {p : Addr} {u : HO} (hl : i ∉ l) (hio : i ∉ o) (hlp : ∀ j ∈ l, ∃ w, B.hp (B.la j) = some w) (hp : B.hp p = none)
    (r : Rl K o (i :: l) ρ σ ⟨upd B.hp p u, fun j => if j = i then p else B.la j⟩ F H) (k : Kp F0 ⟨upd B.hp p u, fun j => if j = i then p else B.la j⟩ F) : Rl K (i :: o) l ρ σ B F H ∧ Kp F0 B F := by
  obtain ⟨d, e, e1, e2, e4⟩ := r.loan i List.mem_cons_self
  dsimp only at e1 e2 e4
  rw [if_pos rfl] at e1 e2 e4
  have hb : ∀ b, b ≠ p → upd B.hp p u b = B.hp b := fun b h => upd_ne h
  have own : ∀ j, j ∈ o → ∀ e, ρ[j]? = some (some e) → ∃ q, σ[j]? = some (some (.ref q)) ∧ F q = none ∧ B.hp q = none ∧ Cell K F H q e ∧ q ≠ p := fun j hj e q => by
    obtain ⟨q', q1, q2, q3, q4⟩ := r.own j hj e q
    have np : q' ≠ p := fun z => by
      have q3 : upd B.hp p u q' = none := q3
      rw [z, upd_same] at q3; cases q3
    exact ⟨q', q1, q2, by rw [← hb q' np]; exact q3, q4, np⟩
  refine ⟨⟨r.len, r.fh, fun b w q => r.bh b w ?_, fun j e' h1 h2 q => ?_, fun j hj e' q => ?_, fun j hj => ?_, fun a ha b hb' hab da db pa qa qb sa sb => ?_⟩, ⟨k.f, fun b w q => ?_⟩⟩
  · have np : b ≠ p := fun z => by rw [z, hp] at q; cases q
    show upd B.hp p u b = some w
    rw [hb b np]; exact q
  · exact r.val j e' (fun z => h1 (List.mem_cons_of_mem _ z)) (fun z => (List.mem_cons.mp z).elim (fun z => h1 (z ▸ List.mem_cons_self)) h2) q
  · rcases List.mem_cons.mp hj with z | z
    · subst z
      rw [e] at q
      cases q
      exact ⟨p, e1, e2, hp, Cell.up (.refl _) (fun w hw => r.bh _ _ hw) e4⟩
    · obtain ⟨q', q1, q2, q3, q4, _⟩ := own j z e' q
      exact ⟨q', q1, q2, q3, q4⟩
  · obtain ⟨d', q, q1, q2, q4⟩ := r.loan j (List.mem_cons_of_mem _ hj)
    have hji : j ≠ i := fun z => hl (z ▸ hj)
    dsimp only at q1 q2 q4
    rw [if_neg hji] at q1 q2 q4
    obtain ⟨w, hw⟩ := hlp j hj
    have np : B.la j ≠ p := fun z => by rw [z, hp] at hw; cases hw
    exact ⟨d', q, q1, q2, Cell.up (.refl _) (fun w hw => by rw [← hb _ np]; exact hw) q4⟩
  · rcases List.mem_cons.mp ha with z | z <;> rcases List.mem_cons.mp hb' with z' | z'
    · exact hab (z.trans z'.symm)
    · subst z
      rw [e1] at sa
      cases sa
      obtain ⟨q', q1, _, _, _, q5⟩ := own b z' db qb
      rw [sb] at q1
      cases q1
      exact q5 rfl
    · subst z'
      rw [e1] at sb
      cases sb
      obtain ⟨q', q1, _, _, _, q5⟩ := own a z da qa
      rw [sa] at q1
      cases q1
      exact q5 rfl
    · exact r.sep a z b z' hab da db pa qa qb sa sb
  · rcases k.n b w q with z | z
    · exact .inl z
    · have z : upd B.hp p u b = none := z
      by_cases np : b = p
      · rw [np]; exact .inr hp
      · rw [hb b np] at z; exact .inr z
end
end L2.Pd

/-! The canonical readings and the rules for expressions. -/
namespace L2.Pd
open PySem PySem.Spec PyProof.Rows

/-- how an exception lies: its class by the module's name, its own dict -/
def XOk (K : PySem.W.Frag) (mg : Str → Option Value) (c : Str) (ns : List Str) (ds : List D) (cls : Value) (dd : Option Addr) (F H : Hp) : Prop :=
  mg c = some cls ∧ ((ns = [] ∧ ds = [] ∧ dd = none) ∨ ∃ a ws, dd = some a ∧ H a = some (.xd (ns.zip ws)) ∧ ws.length = ns.length ∧ Reps K F ws ds)
/-- a wish that the exception ends so -/
abbrev XW := Value → Option Addr → Hp → Prop
def PostE (K : PySem.W.Frag) (mg : Str → Option Value) (F H : Hp) (Q : VK) (W : XW) : R → Prop
  | .ok d => ∀ v F' H', Ext F H F' H' → Rep K F' v d → Q v H'
  | .exc c ns ds => ∀ cls dd F' H', Ext F H F' H' → XOk K mg c ns ds cls dd F' H' → W cls dd H'
  | .bad => False
def PostA (K : PySem.W.Frag) (mg : Str → Option Value) (F H : Hp) (Q : List V → Hp → Prop) (W : XW) : Rs (List D) → Prop
  | .ok d => ∀ v F' H', Ext F H F' H' → Reps K F' v d → Q v H'
  | .exc c ns ds => ∀ cls dd F' H', Ext F H F' H' → XOk K mg c ns ds cls dd F' H' → W cls dd H'
  | .bad => False
def PostT (K : PySem.W.Frag) (mg : Str → Option Value) (F H : Hp) (Q : Bool → Hp → Prop) (W : XW) : Rs Bool → Prop
  | .ok b => ∀ F' H', Ext F H F' H' → Q b H'
  | .exc c ns ds => ∀ cls dd F' H', Ext F H F' H' → XOk K mg c ns ds cls dd F' H' → W cls dd H'
  | .bad => False
/-- a container to look into -/
def PostB (K : PySem.W.Frag) (mg : Str → Option Value) (F H : Hp) (Q : VK) (W : XW) : R → Prop
  | .ok (.lst ds) => ∀ a xs F' H', Ext F H F' H' → SqL K H' a xs → Reps K F' xs ds → Q (.ref a) H'
  | .ok (.tup ds) => ∀ a xs F' H', Ext F H F' H' → SqT K H' a xs → Reps K F' xs ds → Q (.ref a) H'
  | .ok (.dic ks ds) => ∀ a kvs F' H', Ext F H F' H' → H' a = some (.dK kvs) → kvs.map (·.1) = ks.map Sum.inl → Reps K F' (kvs.map (·.2)) ds → Q (.ref a) H'
  | .ok (.str x) => ∀ F' H', Ext F H F' H' → Q (.str x) H'
  | .ok _ => False
  | .exc c ns ds => ∀ cls dd F' H', Ext F H F' H' → XOk K mg c ns ds cls dd F' H' → W cls dd H'
  | .bad => False
/-- a new list or dict, nobody else's -/
def PostF (K : PySem.W.Frag) (mg : Str → Option Value) (F H : Hp) (Q : VK) (W : XW) : R → Prop
  | .ok d => ∀ p F' H', Ext F H F' H' → H p = none → F' p = none → Cell K F' H' p d → Q (.ref p) H'
  | .exc c ns ds => ∀ cls dd F' H', Ext F H F' H' → XOk K mg c ns ds cls dd F' H' → W cls dd H'
  | .bad => False
section
variable (K : PySem.W.Frag) (mg : Str → Option Value) (W : WX) (o l : List Nat)
def cE (m : Sl → R) : TE := fun σ H Q => ∃ ρ B F, Rl K o l ρ σ B F H ∧ PostE K mg F H Q (fun c d H' => W c d σ H') (m ρ)
def cB (m : Sl → R) : TE := fun σ H Q => ∃ ρ B F, Rl K o l ρ σ B F H ∧ PostB K mg F H Q (fun c d H' => W c d σ H') (m ρ)
def cF (m : Sl → R) : TE := fun σ H Q => ∃ ρ B F, Rl K o l ρ σ B F H ∧ PostF K mg F H Q (fun c d H' => W c d σ H') (m ρ)
def cA (m : Sl → Rs (List D)) : TA := fun σ H Q => ∃ ρ B F, Rl K o l ρ σ B F H ∧ PostA K mg F H Q (fun c d H' => W c d σ H') (m ρ)
def cT (m : Sl → Rs Bool) : TT := fun σ H Q => ∃ ρ B F, Rl K o l ρ σ B F H ∧ PostT K mg F H Q (fun c d H' => W c d σ H') (m ρ)
end

section
variable {X : Cx}
/-! ### a smaller reading -/
theorem PE.sub {e : Expr} {t u : TE} (h : PE X e t) (k : ∀ σ H Q, u σ H Q → t σ H Q) : PE X e u := ⟨fun pins s σ H Q I q => h.run pins s σ H Q I (k σ H Q q)⟩
theorem PT.sub {e : Expr} {t u : TT} (h : PT X e t) (k : ∀ σ H Q, u σ H Q → t σ H Q) : PT X e u := ⟨fun pins s σ H Q I q => h.run pins s σ H Q I (k σ H Q q)⟩
theorem PW.sub {e : Expr} {t u : TT} (h : PW X e t) (k : ∀ σ H Q, u σ H Q → t σ H Q) : PW X e u := ⟨fun wh pins s σ H Q I q => h.run wh pins s σ H Q I (k σ H Q q)⟩
theorem PA.sub {e : List Expr} {t u : TA} (h : PA X e t) (k : ∀ σ H Q, u σ H Q → t σ H Q) : PA X e u := ⟨fun pos pins s σ H Q I q => h.run pos pins s σ H Q I (k σ H Q q)⟩
theorem PS.sub {e : Stmt} {t u : TS} (h : PS X e t) (k : ∀ D σ H, u D σ H → t D σ H) : PS X e u := ⟨fun pins s σ H D I q => h.run pins s σ H D I (k D σ H q)⟩
theorem PSs.sub {e : List Stmt} {t u : TS} (h : PSs X e t) (k : ∀ D σ H, u D σ H → t D σ H) : PSs X e u := ⟨fun pins s σ H D I q => h.run pins s σ H D I (k D σ H q)⟩

theorem PostE.ext {K : PySem.W.Frag} {mg : Str → Option Value} {F H F1 H1 : Hp} {Q : VK} {W : XW} (x : Ext F H F1 H1) : ∀ {r : R}, PostE K mg F H Q W r → PostE K mg F1 H1 Q W r
  | .ok _, h => fun v F' H' x' => h v F' H' (x.trans x')
  | .exc _ _ _, h => fun c d F' H' x' => h c d F' H' (x.trans x')
theorem PostA.ext {K : PySem.W.Frag} {mg : Str → Option Value} {F H F1 H1 : Hp} {Q : List V → Hp → Prop} {W : XW} (x : Ext F H F1 H1) : ∀ {r : Rs (List D)}, PostA K mg F H Q W r → PostA K mg F1 H1 Q W r
  | .ok _, h => fun v F' H' x' => h v F' H' (x.trans x')
  | .exc _ _ _, h => fun c d F' H' x' => h c d F' H' (x.trans x')
theorem PostT.ext {K : PySem.W.Frag} {mg : Str → Option Value} {F H F1 H1 : Hp} {Q : Bool → Hp → Prop} {W : XW} (x : Ext F H F1 H1) : ∀ {r : Rs Bool}, PostT K mg F H Q W r → PostT K mg F1 H1 Q W r
  | .ok _, h => fun F' H' x' => h F' H' (x.trans x')
  | .exc _ _ _, h => fun c d F' H' x' => h c d F' H' (x.trans x')

/-! ### parts in a row: k what is made of the part's value; what follows is any wish over its post -/
section
variable {K : PySem.W.Frag} {mg : Str → Option Value} {W : WX} {o l : List Nat} {m : Sl → R} {σ : St} {H : Hp} {ρ : Sl} {B : Bs} {F : Hp}
/-- from the whole's post to the part's: the part is ok, and what is wanted follows -/
theorem cE.to {Q : VK} (r : Rl K o l ρ σ B F H) (hx : ∀ c ns ds, m ρ = .exc c ns ds → ∀ cls dd F' H', Ext F H F' H' → XOk K mg c ns ds cls dd F' H' → W cls dd σ H') (hb : m ρ ≠ .bad)
    (h : ∀ d, m ρ = .ok d → ∀ v F' H', Ext F H F' H' → Rl K o l ρ σ B F' H' → Rep K F' v d → Q v H') : cE K mg W o l m σ H Q := by
  refine ⟨ρ, B, F, r, ?_⟩
  cases e : m ρ with
  | ok d => exact fun v F' H' x q => h d e v F' H' x (r.ext x) q
  | exc c ns ds => exact fun cls dd F' H' x q => hx c ns ds e cls dd F' H' x q
  | bad => exact absurd e hb
end
/-- one part, then k -/
theorem cE.bind {K : PySem.W.Frag} {mg : Str → Option Value} {W : WX} {o l : List Nat} {m : Sl → R} {σ : St} {H : Hp} {ρ : Sl} {B : Bs} {F : Hp} {k : D → R} {Q Q' : VK}
    (r : Rl K o l ρ σ B F H) (p : PostE K mg F H Q (fun c d H' => W c d σ H') ((m ρ).bind k))
    (h : ∀ d v F' H', Ext F H F' H' → Rl K o l ρ σ B F' H' → Rep K F' v d → PostE K mg F' H' Q (fun c d H' => W c d σ H') (k d) → Q' v H') : cE K mg W o l m σ H Q' := by
  refine ⟨ρ, B, F, r, ?_⟩
  cases e : m ρ with
  | ok d =>
    rw [e] at p
    exact fun v F' H' x q => h d v F' H' x (r.ext x) q (p.ext x)
  | exc c ns ds =>
    rw [e] at p
    exact p
  | bad =>
    rw [e] at p
    exact p
theorem cE.bindT {K : PySem.W.Frag} {mg : Str → Option Value} {W : WX} {o l : List Nat} {m : Sl → R} {σ : St} {H : Hp} {ρ : Sl} {B : Bs} {F : Hp} {k : D → Rs Bool} {Q : Bool → Hp → Prop} {Q' : VK}
    (r : Rl K o l ρ σ B F H) (p : PostT K mg F H Q (fun c d H' => W c d σ H') ((m ρ).bind k))
    (h : ∀ d v F' H', Ext F H F' H' → Rl K o l ρ σ B F' H' → Rep K F' v d → PostT K mg F' H' Q (fun c d H' => W c d σ H') (k d) → Q' v H') : cE K mg W o l m σ H Q' := by
  refine ⟨ρ, B, F, r, ?_⟩
  cases e : m ρ with
  | ok d =>
    rw [e] at p
    exact fun v F' H' x q => h d v F' H' x (r.ext x) q (p.ext x)
  | exc c ns ds =>
    rw [e] at p
    exact p
  | bad =>
    rw [e] at p
    exact p
theorem cE.bindA {K : PySem.W.Frag} {mg : Str → Option Value} {W : WX} {o l : List Nat} {m : Sl → R} {σ : St} {H : Hp} {ρ : Sl} {B : Bs} {F : Hp} {k : D → Rs (List D)} {Q : List V → Hp → Prop} {Q' : VK}
    (r : Rl K o l ρ σ B F H) (p : PostA K mg F H Q (fun c d H' => W c d σ H') ((m ρ).bind k))
    (h : ∀ d v F' H', Ext F H F' H' → Rl K o l ρ σ B F' H' → Rep K F' v d → PostA K mg F' H' Q (fun c d H' => W c d σ H') (k d) → Q' v H') : cE K mg W o l m σ H Q' := by
  refine ⟨ρ, B, F, r, ?_⟩
  cases e : m ρ with
  | ok d =>
    rw [e] at p
    exact fun v F' H' x q => h d v F' H' x (r.ext x) q (p.ext x)
  | exc c ns ds =>
    rw [e] at p
    exact p
  | bad =>
    rw [e] at p
    exact p
theorem cA.bind {K : PySem.W.Frag} {mg : Str → Option Value} {W : WX} {o l : List Nat} {m : Sl → Rs (List D)} {σ : St} {H : Hp} {ρ : Sl} {B : Bs} {F : Hp} {k : List D → R} {Q : VK} {Q' : List V → Hp → Prop}
    (r : Rl K o l ρ σ B F H) (p : PostE K mg F H Q (fun c d H' => W c d σ H') ((m ρ).bind k))
    (h : ∀ d v F' H', Ext F H F' H' → Rl K o l ρ σ B F' H' → Reps K F' v d → PostE K mg F' H' Q (fun c d H' => W c d σ H') (k d) → Q' v H') : cA K mg W o l m σ H Q' := by
  refine ⟨ρ, B, F, r, ?_⟩
  cases e : m ρ with
  | ok d =>
    rw [e] at p
    exact fun v F' H' x q => h d v F' H' x (r.ext x) q (p.ext x)
  | exc c ns ds =>
    rw [e] at p
    exact p
  | bad =>
    rw [e] at p
    exact p
theorem cA.bindA {K : PySem.W.Frag} {mg : Str → Option Value} {W : WX} {o l : List Nat} {m : Sl → Rs (List D)} {σ : St} {H : Hp} {ρ : Sl} {B : Bs} {F : Hp} {k : List D → Rs (List D)} {Q : List V → Hp → Prop} {Q' : List V → Hp → Prop}
    (r : Rl K o l ρ σ B F H) (p : PostA K mg F H Q (fun c d H' => W c d σ H') ((m ρ).bind k))
    (h : ∀ d v F' H', Ext F H F' H' → Rl K o l ρ σ B F' H' → Reps K F' v d → PostA K mg F' H' Q (fun c d H' => W c d σ H') (k d) → Q' v H') : cA K mg W o l m σ H Q' := by
  refine ⟨ρ, B, F, r, ?_⟩
  cases e : m ρ with
  | ok d =>
    rw [e] at p
    exact fun v F' H' x q => h d v F' H' x (r.ext x) q (p.ext x)
  | exc c ns ds =>
    rw [e] at p
    exact p
  | bad =>
    rw [e] at p
    exact p
theorem cT.bind {K : PySem.W.Frag} {mg : Str → Option Value} {W : WX} {o l : List Nat} {m : Sl → Rs Bool} {σ : St} {H : Hp} {ρ : Sl} {B : Bs} {F : Hp} {k : Bool → R} {Q : VK} {Q' : Bool → Hp → Prop}
    (r : Rl K o l ρ σ B F H) (p : PostE K mg F H Q (fun c d H' => W c d σ H') ((m ρ).bind k))
    (h : ∀ d F' H', Ext F H F' H' → Rl K o l ρ σ B F' H' → PostE K mg F' H' Q (fun c d H' => W c d σ H') (k d) → Q' d H') : cT K mg W o l m σ H Q' := by
  refine ⟨ρ, B, F, r, ?_⟩
  cases e : m ρ with
  | ok d =>
    rw [e] at p
    exact fun F' H' x => h d F' H' x (r.ext x) (p.ext x)
  | exc c ns ds =>
    rw [e] at p
    exact p
  | bad =>
    rw [e] at p
    exact p
theorem cT.bindT {K : PySem.W.Frag} {mg : Str → Option Value} {W : WX} {o l : List Nat} {m : Sl → Rs Bool} {σ : St} {H : Hp} {ρ : Sl} {B : Bs} {F : Hp} {k : Bool → Rs Bool} {Q : Bool → Hp → Prop} {Q' : Bool → Hp → Prop}
    (r : Rl K o l ρ σ B F H) (p : PostT K mg F H Q (fun c d H' => W c d σ H') ((m ρ).bind k))
    (h : ∀ d F' H', Ext F H F' H' → Rl K o l ρ σ B F' H' → PostT K mg F' H' Q (fun c d H' => W c d σ H') (k d) → Q' d H') : cT K mg W o l m σ H Q' := by
  refine ⟨ρ, B, F, r, ?_⟩
  cases e : m ρ with
  | ok d =>
    rw [e] at p
    exact fun F' H' x => h d F' H' x (r.ext x) (p.ext x)
  | exc c ns ds =>
    rw [e] at p
    exact p
  | bad =>
    rw [e] at p
    exact p
/-- a container that is looked into by f -/
inductive Look (K : PySem.W.Frag) (F H : Hp) : V → D → Prop
  | lst {a : Addr} {xs : List V} {ds : List D} : SqL K H a xs → Reps K F xs ds → Look K F H (.ref a) (.lst ds)
  | tup {a : Addr} {xs : List V} {ds : List D} : SqT K H a xs → Reps K F xs ds → Look K F H (.ref a) (.tup ds)
  | dic {a : Addr} {kvs : List (Key × V)} {ks : List Int} {ds : List D} : H a = some (.dK kvs) → kvs.map (·.1) = ks.map Sum.inl → Reps K F (kvs.map (·.2)) ds → Look K F H (.ref a) (.dic ks ds)
  | str {x : Str} : Look K F H (.str x) (.str x)
theorem Look.up {K : PySem.W.Frag} {F H F' H' : Hp} (x : Ext F H F' H') {v : V} {d : D} (h : Look K F H v d) : Look K F' H' v d := by
  cases h with
  | lst h1 h2 => exact .lst (x.h.seq h1) (h2.up x.f)
  | tup h1 h2 => exact .tup (Same.sqt x.h h1) (h2.up x.f)
  | dic h1 h2 h3 => exact .dic (x.h _ _ h1) h2 (h3.up x.f)
  | str => exact .str
def okB : D → Bool
  | .lst _ => true | .tup _ => true | .dic _ _ => true | .str _ => true | _ => false
theorem cB.bind {K : PySem.W.Frag} {mg : Str → Option Value} {W : WX} {o l : List Nat} {m : Sl → R} {σ : St} {H : Hp} {ρ : Sl} {B : Bs} {F : Hp} {k : D → R} {Q Q' : VK}
    (r : Rl K o l ρ σ B F H) (hk : ∀ d, okB d = false → k d = .bad) (p : PostE K mg F H Q (fun c d H' => W c d σ H') ((m ρ).bind k))
    (h : ∀ d v F' H', Ext F H F' H' → Rl K o l ρ σ B F' H' → Look K F' H' v d → PostE K mg F' H' Q (fun c d H' => W c d σ H') (k d) → Q' v H') : cB K mg W o l m σ H Q' := by
  refine ⟨ρ, B, F, r, ?_⟩
  cases e : m ρ with
  | ok d =>
    rw [e] at p
    have p : PostE K mg F H Q (fun c d H' => W c d σ H') (k d) := p
    cases d with
    | lst ds => exact fun a xs F' H' x q1 q2 => h _ _ F' H' x (r.ext x) (.lst q1 q2) (p.ext x)
    | tup ds => exact fun a xs F' H' x q1 q2 => h _ _ F' H' x (r.ext x) (.tup q1 q2) (p.ext x)
    | dic ks ds => exact fun a xs F' H' x q1 q2 q3 => h _ _ F' H' x (r.ext x) (.dic q1 q2 q3) (p.ext x)
    | str y => exact fun F' H' x => h _ _ F' H' x (r.ext x) .str (p.ext x)
    | non => rw [hk _ rfl] at p; exact p
    | bl b => rw [hk _ rfl] at p; exact p
    | int b => rw [hk _ rfl] at p; exact p
    | obj c ns vs => rw [hk _ rfl] at p; exact p
  | exc c ns ds =>
    rw [e] at p
    exact p
  | bad =>
    rw [e] at p
    exact p

/-! ### values -/
variable {W : WX} {o l : List Nat} {e a b : Expr} {m ma mb : Sl → R} {pos : Pos}
def eVar (i : Nat) (ρ : Sl) : R := match ρ[i]? with
  | some (some d) => .ok d
  | _ => .bad
def eC (d : D) (_ : Sl) : R := .ok d
theorem c_var (i : Nat) {x : Str} (hN : X.N[i]? = some x := by rfl) (hv : Vis X.env.scope x := by first | exact Or.inl rfl | exact Or.inr (Or.inl rfl) | exact Or.inr (Or.inr rfl)) (hd : (x == ("__debug__" : Str)) = false := by decide)
    (hcd : (x == ("__classdict__" : Str)) = false := by decide) (ho : i ∉ o := by decide) (hl : i ∉ l := by decide) : PE X (.Name x pos) (cE X.K X.mg W o l (eVar i)) := by
  refine PE.sub (pe_var hN hv hd hcd) fun σ H Q h => ?_
  obtain ⟨ρ, B, F, r, p⟩ := h
  unfold eVar at p
  split at p
  · rename_i d hd'
    obtain ⟨v, e1, e2⟩ := r.val i d ho hl hd'
    exact ⟨v, e1, p v F H (.refl r.fh) e2⟩
  · exact p.elim
/-- a slot that owns (or is loaned) its list, looked into -/
theorem b_own (i : Nat) {x : Str} (hN : X.N[i]? = some x := by rfl) (hv : Vis X.env.scope x := by first | exact Or.inl rfl | exact Or.inr (Or.inl rfl) | exact Or.inr (Or.inr rfl)) (hd : (x == ("__debug__" : Str)) = false := by decide)
    (hcd : (x == ("__classdict__" : Str)) = false := by decide) (ho : i ∈ o := by decide) : PE X (.Name x pos) (cB X.K X.mg W o l (eVar i)) := by
  refine PE.sub (pe_var hN hv hd hcd) fun σ H Q h => ?_
  obtain ⟨ρ, B, F, r, p⟩ := h
  unfold eVar at p
  split at p
  · rename_i d hd'
    obtain ⟨q, e1, e2, e3, e4⟩ := r.own i ho d hd'
    refine ⟨_, e1, ?_⟩
    cases d with
    | lst ds =>
      obtain ⟨vs, h1, h2⟩ := e4
      exact p q vs F H (.refl r.fh) (.inl (.inl h1)) h2
    | dic ks ds =>
      obtain ⟨vs, h1, h2, h3⟩ := e4
      exact p q vs F H (.refl r.fh) h1 h2 h3
    | _ => exact e4.elim
  · exact p.elim
theorem b_loan (i : Nat) {x : Str} (hN : X.N[i]? = some x := by rfl) (hv : Vis X.env.scope x := by first | exact Or.inl rfl | exact Or.inr (Or.inl rfl) | exact Or.inr (Or.inr rfl)) (hd : (x == ("__debug__" : Str)) = false := by decide)
    (hcd : (x == ("__classdict__" : Str)) = false := by decide) (ho : i ∈ l := by decide) : PE X (.Name x pos) (cB X.K X.mg W o l (eVar i)) := by
  refine PE.sub (pe_var hN hv hd hcd) fun σ H Q h => ?_
  obtain ⟨ρ, B, F, r, p⟩ := h
  unfold eVar at p
  split at p
  · rename_i d hd'
    obtain ⟨d0, e0, e1, e2, e4⟩ := r.loan i ho
    rw [hd'] at e0
    cases e0
    refine ⟨_, e1, ?_⟩
    cases d with
    | lst ds =>
      obtain ⟨vs, h1, h2⟩ := e4
      exact p _ vs F H (.refl r.fh) (.inl (.inl (r.bh _ _ h1))) h2
    | dic ks ds =>
      obtain ⟨vs, h1, h2, h3⟩ := e4
      exact p _ vs F H (.refl r.fh) (r.bh _ _ h1) h2 h3
    | _ => exact e4.elim
  · exact p.elim
theorem b_of (h : PE X e (cE X.K X.mg W o l m)) : PE X e (cB X.K X.mg W o l m) := by
  refine PE.sub h fun σ H Q hh => ?_
  obtain ⟨ρ, B, F, r, p⟩ := hh
  refine ⟨ρ, B, F, r, ?_⟩
  cases er : m ρ with
  | ok d =>
    rw [er] at p
    intro v F' H' x q
    cases d with
    | lst ds => cases q with | lst q1 q2 => exact p _ _ F' H' x (x.s.seq q1) q2
    | tup ds => cases q with | tup q1 q2 => exact p _ _ F' H' x (Same.sqt x.s q1) q2
    | dic ks ds => cases q with | dic q1 q2 q3 => exact p _ _ F' H' x (x.s _ _ q1) q2 q3
    | str y => cases q; exact p F' H' x
    | non => exact p.elim
    | bl b => exact p.elim
    | int b => exact p.elim
    | obj c ns vs => exact p.elim
  | exc c ns ds => rw [er] at p; exact p
  | bad => rw [er] at p; exact p
/-- what is new is frozen at once -/
theorem of_new (h : PE X e (cF X.K X.mg W o l m)) : PE X e (cE X.K X.mg W o l m) := by
  refine PE.sub h fun σ H Q hh => ?_
  obtain ⟨ρ, B, F, r, p⟩ := hh
  refine ⟨ρ, B, F, r, ?_⟩
  cases er : m ρ with
  | ok d =>
    rw [er] at p
    intro q F' H' x hq fq c
    obtain ⟨u, hu, hr⟩ := Cell.rep x.s fq c
    refine p _ (upd F' q u) H' ⟨fun b w e => ?_, x.h, fun b w e => ?_, fun b w e => ?_⟩ hr
    · have e' := x.f _ _ e
      rw [upd_ne (ne_of_none e' fq)]; exact e'
    · by_cases hb : b = q
      · subst hb; rw [upd_same] at e; cases e; exact hu
      · rw [upd_ne hb] at e; exact x.s _ _ e
    · by_cases hb : b = q
      · subst hb; exact .inr hq
      · rw [upd_ne hb] at e; exact x.n _ _ e
  | exc c ns ds => rw [er] at p; exact p
  | bad => rw [er] at p; exact p
theorem cC {v : V} {d : D} (h : PE X e (tC v)) (r : ∀ F, Rep X.K F v d) : PE X e (cE X.K X.mg W o l (eC d)) :=
  PE.sub h fun σ H Q hh => by
    obtain ⟨ρ, B, F, r1, p⟩ := hh
    exact p v F H (.refl r1.fh) (r F)
theorem c_int {i : Int} {j} : PE X (.Constant (.int i) j pos) (cE X.K X.mg W o l (eC (.int i))) := cC pe_int fun _ => .int i
theorem c_bl {i : Bool} {j} : PE X (.Constant (.bool i) j pos) (cE X.K X.mg W o l (eC (.bl i))) := cC pe_bl fun _ => .bl i
theorem c_non {j} : PE X (.Constant .none j pos) (cE X.K X.mg W o l (eC .non)) := cC pe_non fun _ => .non
theorem c_str {x : Str} {j} : PE X (.Constant (.str x) j pos) (cE X.K X.mg W o l (eC (.str x))) := cC pe_str fun _ => .str x
theorem c_glob {x : Str} {v : V} {d : D} {u : Value} (hm : X.mg x = some u) (r : RelV v u) (rd : ∀ F, Rep X.K F v d) (hg : Gl X x := by rfl) (hd : (x == ("__debug__" : Str)) = false := by decide) : PE X (.Name x pos) (cE X.K X.mg W o l (eC d)) := cC (pe_glob hg hm r hd) rd

/-! ### operations by values -/
/-- f tells what the rule r does -/
def OpS (K : PySem.W.Frag) (r : R2) (f : D → D → R) : Prop := ∀ F H x y dx dy d Q, Same F H → Rep K F x dx → Rep K F y dy → f dx dy = .ok d →
  (∀ v F' H', Ext F H F' H' → Rep K F' v d → Q v H') → r x y H Q
def e2 (f : D → D → R) (ma mb : Sl → R) (ρ : Sl) : R := (ma ρ).bind fun x => (mb ρ).bind fun y => f x y
def Calm (f : D → D → R) : Prop := ∀ x y c ns ds, f x y ≠ .exc c ns ds
theorem e2_post {K : PySem.W.Frag} {mg : Str → Option Value} {r : R2} {f : D → D → R} (hf : OpS K r f) (hc : Calm f) {σ : St} {H : Hp} {Q : VK} (h : cE K mg W o l (e2 f ma mb) σ H Q) :
    cE K mg W o l ma σ H fun x H1 => cE K mg W o l mb σ H1 fun y H2 => r x y H2 Q := by
  obtain ⟨ρ, B, F, r, p⟩ := h
  refine cE.bind r p fun d v F1 H1 x1 r1 q1 p1 => ?_
  refine cE.bind r1 p1 fun d2 v2 F2 H2 x2 r2 q2 p2 => ?_
  cases ef : f d d2 with
  | ok z => rw [ef] at p2; exact hf F2 H2 v v2 d d2 z Q x2.s (q1.up x2.f) q2 ef p2
  | exc c ns ds => exact absurd ef (hc _ _ _ _ _)
  | bad => rw [ef] at p2; exact p2.elim
theorem c_op {op : Operator} {r : R2} {f : D → D → R} (ho : OpR X (binaryOp op) r) (hf : OpS X.K r f) (hc : Calm f) (ha : PE X a (cE X.K X.mg W o l ma)) (hb : PE X b (cE X.K X.mg W o l mb)) :
    PE X (.BinOp a op b pos) (cE X.K X.mg W o l (e2 f ma mb)) := PE.sub (pe_op ho ha hb) fun σ H Q h => e2_post hf hc h
theorem c_cmp {op : CmpOp} {r : R2} {f : D → D → R} (ho : OpR X (compareOp op) r) (hf : OpS X.K r f) (hc : Calm f) (ha : PE X a (cE X.K X.mg W o l ma)) (hb : PE X b (cE X.K X.mg W o l mb)) (hm : behindInMarks op b = false) :
    PE X (.Compare a [op] [b] pos) (cE X.K X.mg W o l (e2 f ma mb)) := PE.sub (pe_cmpR ho ha hb hm) fun σ H Q h => e2_post hf hc h
def isB : D → Rs Bool
  | .bl b => .ok b
  | _ => .bad
def tt (m : Sl → R) (ρ : Sl) : Rs Bool := (m ρ).bind isB
theorem t_cmp {op : CmpOp} {r : R2} {f : D → D → R} (ho : OpR X (compareOp op) r) (hf : OpS X.K r f) (hc : Calm f) (ha : PE X a (cE X.K X.mg W o l ma)) (hb : PE X b (cE X.K X.mg W o l mb)) (hm : behindInMarks op b = false) :
    PT X (.Compare a [op] [b] pos) (cT X.K X.mg W o l (tt (e2 f ma mb))) := by
  refine PT.sub (pt_cmpR ho ha hb hm) fun σ H Q h => ?_
  obtain ⟨ρ, B, F, r, p⟩ := h
  refine e2_post (f := f) hf hc ⟨ρ, B, F, r, ?_⟩
  show PostE _ _ _ _ _ _ (e2 f ma mb ρ)
  unfold tt at p
  cases e : e2 f ma mb ρ with
  | ok d =>
    rw [e] at p
    cases d with
    | bl b =>
      intro v F' H' x q
      cases q
      exact ⟨b, rfl, p F' H' x⟩
    | _ => exact p.elim
  | exc c ns ds => rw [e] at p; exact p
  | bad => rw [e] at p; exact p
theorem t_val (h : PE X e (cE X.K X.mg W o l m)) (he : ∀ whole, isTrue e X.env whole = (do let v ← whole; standAt e.pos; holding [v] (truthy v)) := by intro _; rfl) : PT X e (cT X.K X.mg W o l (tt m)) := by
  refine PT.sub (pt_val h he) fun σ H Q hh => ?_
  obtain ⟨ρ, B, F, r, p⟩ := hh
  refine ⟨ρ, B, F, r, ?_⟩
  unfold tt at p
  cases e : m ρ with
  | ok d =>
    rw [e] at p
    cases d with
    | bl b =>
      intro v F' H' x q
      cases q
      exact ⟨b, rfl, p F' H' x⟩
    | _ => exact p.elim
  | exc c ns ds => rw [e] at p; exact p
  | bad => rw [e] at p; exact p
/-! ### and, or, not as tests -/
variable {ta tb : Sl → Rs Bool} {rest : List Expr}
def tAnd' (ta tb : Sl → Rs Bool) (ρ : Sl) : Rs Bool := (ta ρ).bind fun c => if c = true then tb ρ else .ok false
def tOr' (ta tb : Sl → Rs Bool) (ρ : Sl) : Rs Bool := (ta ρ).bind fun c => if c = true then .ok true else tb ρ
def tNot' (ta : Sl → Rs Bool) (ρ : Sl) : Rs Bool := (ta ρ).bind fun c => .ok (!c)
theorem w_and1 (ha : PT X a (cT X.K X.mg W o l ta)) : PW X (.BoolOp .And [a] pos) (cT X.K X.mg W o l ta) := pw_and1 ha
theorem w_or1 (ha : PT X a (cT X.K X.mg W o l ta)) : PW X (.BoolOp .Or [a] pos) (cT X.K X.mg W o l ta) := pw_or1 ha
theorem w_and (ha : PT X a (cT X.K X.mg W o l ta)) (hb : PW X (.BoolOp .And (b :: rest) pos) (cT X.K X.mg W o l tb)) : PW X (.BoolOp .And (a :: b :: rest) pos) (cT X.K X.mg W o l (tAnd' ta tb)) := by
  refine PW.sub (pw_and ha hb) fun σ H Q hh => ?_
  obtain ⟨ρ, B, F, r, p⟩ := hh
  refine cT.bindT r p fun c F' H' x r' p' => ?_
  refine ite2 (fun h => ?_) (fun h => ?_)
  · rw [if_pos h] at p'
    exact ⟨ρ, B, F', r', p'⟩
  · rw [if_neg h] at p'
    exact p' F' H' (.refl x.s)
theorem w_or (ha : PT X a (cT X.K X.mg W o l ta)) (hb : PW X (.BoolOp .Or (b :: rest) pos) (cT X.K X.mg W o l tb)) : PW X (.BoolOp .Or (a :: b :: rest) pos) (cT X.K X.mg W o l (tOr' ta tb)) := by
  refine PW.sub (pw_or ha hb) fun σ H Q hh => ?_
  obtain ⟨ρ, B, F, r, p⟩ := hh
  refine cT.bindT r p fun c F' H' x r' p' => ?_
  refine ite2 (fun h => ?_) (fun h => ?_)
  · rw [if_pos h] at p'
    exact p' F' H' (.refl x.s)
  · rw [if_neg h] at p'
    exact ⟨ρ, B, F', r', p'⟩
theorem t_not (ha : PT X a (cT X.K X.mg W o l ta)) : PT X (.UnaryOp .Not a pos) (cT X.K X.mg W o l (tNot' ta)) := by
  refine PT.sub (pt_not ha) fun σ H Q hh => ?_
  obtain ⟨ρ, B, F, r, p⟩ := hh
  exact cT.bindT r p fun c F' H' x r' p' => p' F' H' (.refl x.s)
/-! ### .. as values (bools) -/
def eAnd (ma mb : Sl → R) (ρ : Sl) : R := (ma ρ).bind fun x => match x with
  | .bl true => mb ρ
  | .bl false => .ok (.bl false)
  | _ => .bad
def eOr (ma mb : Sl → R) (ρ : Sl) : R := (ma ρ).bind fun x => match x with
  | .bl true => .ok (.bl true)
  | .bl false => mb ρ
  | _ => .bad
def eNot (ma : Sl → R) (ρ : Sl) : R := (ma ρ).bind fun x => match x with
  | .bl b => .ok (.bl (!b))
  | _ => .bad
theorem c_one {op} (h : PE X a (cE X.K X.mg W o l ma)) : PE X (.BoolOp op [a] pos) (cE X.K X.mg W o l ma) := pe_one h
theorem c_and (ha : PE X a (cE X.K X.mg W o l ma)) (hb : PE X (.BoolOp .And (b :: rest) pos) (cE X.K X.mg W o l mb)) : PE X (.BoolOp .And (a :: b :: rest) pos) (cE X.K X.mg W o l (eAnd ma mb)) := by
  refine PE.sub (pe_and ha hb) fun σ H Q hh => ?_
  obtain ⟨ρ, B, F, r, p⟩ := hh
  refine cE.bind r p fun d v F' H' x r' q p' => ?_
  cases q with
  | bl c =>
    refine ⟨c, rfl, ?_⟩
    cases c with
    | true => exact iteT ⟨ρ, B, F', r', p'⟩
    | false => exact iteF (p' _ F' H' (.refl x.s) (.bl false))
  | _ => exact p'.elim
theorem c_or (ha : PE X a (cE X.K X.mg W o l ma)) (hb : PE X (.BoolOp .Or (b :: rest) pos) (cE X.K X.mg W o l mb)) : PE X (.BoolOp .Or (a :: b :: rest) pos) (cE X.K X.mg W o l (eOr ma mb)) := by
  refine PE.sub (pe_or ha hb) fun σ H Q hh => ?_
  obtain ⟨ρ, B, F, r, p⟩ := hh
  refine cE.bind r p fun d v F' H' x r' q p' => ?_
  cases q with
  | bl c =>
    refine ⟨c, rfl, ?_⟩
    cases c with
    | true => exact iteT (p' _ F' H' (.refl x.s) (.bl true))
    | false => exact iteF ⟨ρ, B, F', r', p'⟩
  | _ => exact p'.elim
theorem c_not (ha : PE X a (cE X.K X.mg W o l ma)) : PE X (.UnaryOp .Not a pos) (cE X.K X.mg W o l (eNot ma)) := by
  refine PE.sub (pe_not ha) fun σ H Q hh => ?_
  obtain ⟨ρ, B, F, r, p⟩ := hh
  refine cE.bind r p fun d v F' H' x r' q p' => ?_
  cases q with
  | bl c => exact ⟨c, rfl, p' _ F' H' (.refl x.s) (.bl _)⟩
  | _ => exact p'.elim
end
end L2.Pd

/-! Rules for expressions: arithmetic, comparisons, displays, calls, items. -/
namespace L2.Pd
open PySem PySem.Spec PyProof.Rows

/-! ### the data as the library's -/
mutual
def D.py : D → PyData
  | .non => .none
  | .bl b => .bool b
  | .int i => .int i
  | .str x => .str x
  | .lst l => .list (D.pys l)
  | .tup l => .tuple (D.pys l)
  | .dic _ _ => .dict []
  | .obj _ _ _ => .dict []
def D.pys : List D → List PyData
  | [] => []
  | d :: r => D.py d :: D.pys r
end
section
variable {K : PySem.W.Frag} {F H : Hp}
mutual
theorem Rep.dp (s : Same F H) : ∀ {v : V} (d : D), Rep K F v d → d.py.canLay0 = true → Dp K H v d.py
  | _, .non, h, _ => by cases h; exact .non
  | _, .bl b, h, _ => by cases h; exact .bl b
  | _, .int i, h, _ => by cases h; exact .int i
  | _, .str x, h, _ => by cases h; exact .str x
  | _, .lst ds, h, c => by
    cases h with
    | lst h1 h2 => exact .lst (s.seq h1) (Reps.dp s ds h2 (by simpa only [D.py, PyData.canLay0] using c))
  | _, .tup ds, h, c => by
    cases h with
    | tup h1 h2 => exact .tup (Same.sqt s h1) (Reps.dp s ds h2 (by simpa only [D.py, PyData.canLay0] using c))
  | _, .dic ks ds, h, c => by simp only [D.py, PyData.canLay0] at c; cases c
  | _, .obj c ns vs, h, _ => by cases h
theorem Reps.dp (s : Same F H) : ∀ {vs : List V} (ds : List D), Reps K F vs ds → PyData.canLayAll0 (D.pys ds) = true → DpAll K H vs (D.pys ds)
  | _, [], h, _ => by cases h; exact .nil
  | _, d :: ds, h, c => by
    cases h with
    | cons h1 h2 =>
      have c' : d.py.canLay0 = true ∧ PyData.canLayAll0 (D.pys ds) = true := by simpa only [D.pys, PyData.canLayAll0, Bool.and_eq_true] using c
      exact .cons (Rep.dp s d h1 c'.1) (Reps.dp s ds h2 c'.2)
end
end
def D.sh (d : D) : Bool := SeqAt.shaped d.py
def D.eqv (d e : D) : Bool := PyData.eqv d.py e.py

/-! ### what operations give -/
def mulOk (i j : Int) : Bool := decide (i.natAbs.log2 + j.natAbs.log2 < 134217000)
def divOk (j : Int) : Bool := decide (0 < j) && decide (j.natAbs.log2 < 9000)
def powOk (i j : Int) : Bool := decide (0 ≤ j) && decide (j ≤ 1000000) && decide (i.natAbs < 2 ^ 64)
def sizeOkN (n : Nat) : Bool := decide (n ≤ 16000000)
theorem sizeOkN_le {n : Nat} (h : sizeOkN n = true) : n ≤ sizeLine := by
  have := of_decide_eq_true h
  rw [sizeLine_eq]
  omega
theorem sizeOkN_lt {n : Nat} (h : sizeOkN n = true) : n < sizeLine := by
  have := of_decide_eq_true h
  rw [sizeLine_eq]
  omega
def dAdd : D → D → R
  | .int i, .int j => .ok (.int (i + j))
  | .str x, .str y => if sizeOkN (x.length + y.length) then .ok (.str (x ++ y)) else .bad
  | .lst x, .lst y => if sizeOkN (x.length + y.length) then .ok (.lst (x ++ y)) else .bad
  | .tup x, .tup y => if sizeOkN (x.length + y.length) && !x.isEmpty && !y.isEmpty then .ok (.tup (x ++ y)) else .bad
  | _, _ => .bad
def dSub : D → D → R
  | .int i, .int j => .ok (.int (i - j))
  | _, _ => .bad
def dMul : D → D → R
  | .int i, .int j => if mulOk i j then .ok (.int (i * j)) else .bad
  | .lst x, .int k => if sizeOkN (x.length * k.toNat) && decide (k < 2 ^ 63) && decide (-(2 ^ 63) ≤ k) then .ok (.lst (List.replicate k.toNat x).flatten) else .bad
  | _, _ => .bad
def dDiv : D → D → R
  | .int i, .int j => if divOk j then .ok (.int (i / j)) else .bad
  | _, _ => .bad
def dMod : D → D → R
  | .int i, .int j => if decide (0 < j) then .ok (.int (i % j)) else .bad
  | _, _ => .bad
def dPow : D → D → R
  | .int i, .int j => if powOk i j then .ok (.int (i ^ j.toNat)) else .bad
  | _, _ => .bad
def dNeg : D → R
  | .int i => .ok (.int (-i))
  | _ => .bad
def dLt : D → D → R
  | .int i, .int j => .ok (.bl (decide (i < j)))
  | _, _ => .bad
def dLe : D → D → R
  | .int i, .int j => .ok (.bl (decide (i ≤ j)))
  | _, _ => .bad
def dGt : D → D → R
  | .int i, .int j => .ok (.bl (decide (j < i)))
  | _, _ => .bad
def dGe : D → D → R
  | .int i, .int j => .ok (.bl (decide (j ≤ i)))
  | _, _ => .bad
def dEq (x y : D) : R := if x.sh && y.sh then .ok (.bl (x.eqv y)) else .bad
def dNe (x y : D) : R := if x.sh && y.sh then .ok (.bl (!x.eqv y)) else .bad
def dIsN : D → D → R
  | .non, .non => .ok (.bl true)
  | _, .non => .ok (.bl false)
  | _, _ => .bad
def dNotN : D → D → R
  | .non, .non => .ok (.bl false)
  | _, .non => .ok (.bl true)
  | _, _ => .bad

section
variable {X : Cx}
theorem calm_add : Calm dAdd := fun x y c ns ds h => by
  unfold dAdd at h
  split at h
  · cases h
  · split at h <;> cases h
  · split at h <;> cases h
  · split at h <;> cases h
  · cases h
theorem calm_sub : Calm dSub := fun x y c ns ds h => by unfold dSub at h; split at h <;> cases h
theorem calm_mul : Calm dMul := fun x y c ns ds h => by
  unfold dMul at h
  split at h
  · split at h <;> cases h
  · split at h <;> cases h
  · cases h
theorem calm_div : Calm dDiv := fun x y c ns ds h => by
  unfold dDiv at h
  split at h
  · split at h <;> cases h
  · cases h
theorem calm_mod : Calm dMod := fun x y c ns ds h => by
  unfold dMod at h
  split at h
  · split at h <;> cases h
  · cases h
theorem calm_pow : Calm dPow := fun x y c ns ds h => by
  unfold dPow at h
  split at h
  · split at h <;> cases h
  · cases h
theorem calm_lt : Calm dLt := fun x y c ns ds h => by unfold dLt at h; split at h <;> cases h
theorem calm_le : Calm dLe := fun x y c ns ds h => by unfold dLe at h; split at h <;> cases h
theorem calm_gt : Calm dGt := fun x y c ns ds h => by unfold dGt at h; split at h <;> cases h
theorem calm_ge : Calm dGe := fun x y c ns ds h => by unfold dGe at h; split at h <;> cases h
theorem calm_eq : Calm dEq := fun x y c ns ds h => by unfold dEq at h; split at h <;> cases h
theorem calm_ne : Calm dNe := fun x y c ns ds h => by unfold dNe at h; split at h <;> cases h
theorem calm_isN : Calm dIsN := fun x y c ns ds h => by unfold dIsN at h; split at h <;> cases h
theorem calm_notN : Calm dNotN := fun x y c ns ds h => by unfold dNotN at h; split at h <;> cases h

/-! ### list + list of any that may be read -/
def rCatS (K : PySem.W.Frag) : R2 := fun x y H Q => ∃ l b xs zs, x = .ref l ∧ y = .ref b ∧ SqL K H l xs ∧ SqL K H b zs ∧ xs.length + zs.length ≤ sizeLine ∧ ∀ p, H p = none → Q (.ref p) (upd H p (.lst (xs ++ zs)))
theorem op_catS : OpR X (binaryOp .Add) (rCatS X.K) := by
  intro pins s σ H x y v u Q I rx ry h
  obtain ⟨l, b, xs, zs, rfl, rfl, hH, hB, hz, q⟩ := h
  cases rx
  cases ry
  obtain ⟨its, r, ⟨o1, n1, e, hc1, hd1, hs1⟩, hl⟩ := I.list hH
  obtain ⟨its2, r2, ⟨o2, n2, e2, hc2, hd2, hs2⟩, hl2⟩ := I.list hB
  have h1 := r.length
  have h2 := r2.length
  obtain ⟨c1, d1, t1, s1⟩ := o1
  obtain ⟨c2, d2, t2, s2⟩ := o2
  simp only at hc1 hd1 hs1 hc2 hd2 hs2
  subst hc1 hd1 hs1 hc2 hd2 hs2
  have ea : its.toArray ++ its2.toArray = (its ++ its2).toArray := by simp
  refine concat_meets ⟨_, e, rfl⟩ ⟨_, e2, rfl⟩ noFill_list_add seq_list_add PySem.F.slot_list_add PySem.F.entry_list_add (PySem.F.args_list_add_2 _ _) (list_addW l b its.toArray its2.toArray n1 n2 none none s1 s2 (by simp only [List.size_toArray]; omega)) ⟨e, e2, ?_⟩
  rw [ea]
  exact ⟨.ref _, _, I.lnew (t' := s.toks) (r.append r2) (by rw [List.length_append]; omega), rfl, q _ I.fresh⟩
/-- * of ints of together less than 134 million bits -/
def CMulB (i j : Int) : Prop := i.natAbs.log2 + j.natAbs.log2 < 134217000
theorem CMulB.ok {i j : Int} (h : CMulB i j) : IntMulOk i j := by
  have b : ∀ x : Int, Builtin.Int.intBits x ≤ x.natAbs.log2 + 1 := fun x => by
    unfold Builtin.Int.intBits
    split <;> omega
  have h1 := b i
  have h2 := b j
  have h3 : i.natAbs.log2 + j.natAbs.log2 < 134217000 := h
  have e : bitsLine = 134217728 := by decide
  unfold IntMulOk
  intro z
  rw [Bool.and_eq_true] at z
  have z2 := z.2
  unfold Builtin.Int.intTooBig at z2
  have z3 := of_decide_eq_true z2
  rw [e] at z3
  omega
theorem op_mulB : OpR X (binaryOp .Mult) (rI CMulB fun i j => .int (i * j)) := opI fun _ _ _ _ _ _ _ hc q => mul_int q hc.ok
def rAddAll (K : PySem.W.Frag) : R2 := fun x y H Q => rI0 (fun i j => .int (i + j)) x y H Q ∨ (fun x y H Q => (∃ i j, x = .str i ∧ y = .str j ∧ i.length + j.length ≤ sizeLine ∧ Q (.str (i ++ j)) H) ∨ rCatS K x y H Q ∨ rCatT K x y H Q) x y H Q
theorem op_addAll : OpR X (binaryOp .Add) (rAddAll X.K) := OpR.or op_add (OpR.or op_add_str (OpR.or op_catS op_catT))
theorem s_add : OpS X.K (rAddAll X.K) dAdd := by
  intro F H x y dx dy d Q s rx ry e h
  unfold dAdd at e
  split at e
  · cases rx
    cases ry
    cases e
    exact .inl ⟨_, _, rfl, rfl, h _ F H (.refl s) (.int _)⟩
  · cases rx
    cases ry
    split at e
    · rename_i hz
      cases e
      exact .inr (.inl ⟨_, _, rfl, rfl, sizeOkN_le hz, h _ F H (.refl s) (.str _)⟩)
    · cases e
  · cases rx with
    | lst h1 h2 =>
      cases ry with
      | lst h3 h4 =>
        split at e
        · rename_i hz
          cases e
          refine .inr (.inr (.inl ⟨_, _, _, _, rfl, rfl, s.seq h1, s.seq h3, by rw [h2.length, h4.length]; exact sizeOkN_le hz, fun p hp => ?_⟩))
          exact h _ _ _ (Ext.new s hp) (.lst (.inl (.inl upd_same)) (Reps.append (h2.up (Ext.new s hp).f) (h4.up (Ext.new s hp).f)))
        · cases e
  · cases rx with
    | tup h1 h2 =>
      cases ry with
      | tup h3 h4 =>
        split at e
        · rename_i hz
          cases e
          simp only [Bool.and_eq_true, Bool.not_eq_true', List.isEmpty_eq_false_iff] at hz
          obtain ⟨⟨z1, z2⟩, z3⟩ := hz
          refine .inr (.inr (.inr ⟨_, _, _, _, rfl, rfl, Same.sqt s h1, Same.sqt s h3, fun e => ?_, by rw [h2.length, h4.length]; exact sizeOkN_le z1, fun e => ?_, fun _ p hp => ?_⟩))
          · subst e
            have := h2.length
            exact z2 (List.eq_nil_of_length_eq_zero this.symm)
          · subst e
            have := h4.length
            exact absurd (List.eq_nil_of_length_eq_zero this.symm) z3
          · exact h _ _ _ (Ext.new s hp) (.tup (.inl (.inl upd_same)) (Reps.append (h2.up (Ext.new s hp).f) (h4.up (Ext.new s hp).f)))
        · cases e
  · cases e
theorem s_sub : OpS X.K (rI0 fun i j => .int (i - j)) dSub := by
  intro F H x y dx dy d Q s rx ry e h
  unfold dSub at e
  split at e
  · cases rx
    cases ry
    cases e
    exact ⟨_, _, rfl, rfl, h _ F H (.refl s) (.int _)⟩
  · cases e
def rMulAll : R2 := fun x y H Q => rI CMulB (fun i j => .int (i * j)) x y H Q ∨ rRep x y H Q
theorem op_mulAll : OpR X (binaryOp .Mult) rMulAll := OpR.or op_mulB op_rep
def dMulI : D → D → R := fun x y => match x, y with | .int i, .int j => if mulOk i j then .ok (.int (i * j)) else .bad | _, _ => .bad
theorem s_mul : OpS X.K (rI CMulB fun i j => .int (i * j)) dMulI := by
  intro F H x y dx dy d Q s rx ry e h
  unfold dMulI at e
  split at e
  · cases rx
    cases ry
    split at e
    · rename_i hz
      cases e
      exact ⟨_, _, rfl, rfl, (show _ < 134217000 from of_decide_eq_true hz), h _ F H (.refl s) (.int _)⟩
    · cases e
  · cases e
theorem calm_mulI : Calm dMulI := fun x y c ns ds h => by
  unfold dMulI at h
  split at h
  · split at h <;> cases h
  · cases h
theorem s_div : OpS X.K (rI CDivW fun i j => .int (i / j)) dDiv := by
  intro F H x y dx dy d Q s rx ry e h
  unfold dDiv at e
  split at e
  · cases rx
    cases ry
    split at e
    · rename_i hz
      cases e
      unfold divOk at hz
      rw [Bool.and_eq_true] at hz
      exact ⟨_, _, rfl, rfl, ⟨of_decide_eq_true hz.1, of_decide_eq_true hz.2⟩, h _ F H (.refl s) (.int _)⟩
    · cases e
  · cases e
theorem s_mod : OpS X.K (rI (fun _ j => 0 < j) fun i j => .int (i % j)) dMod := by
  intro F H x y dx dy d Q s rx ry e h
  unfold dMod at e
  split at e
  · cases rx
    cases ry
    split at e
    · rename_i hz
      cases e
      exact ⟨_, _, rfl, rfl, of_decide_eq_true hz, h _ F H (.refl s) (.int _)⟩
    · cases e
  · cases e
theorem s_pow : OpS X.K (rI CPow fun i j => .int (i ^ j.toNat)) dPow := by
  intro F H x y dx dy d Q s rx ry e h
  unfold dPow at e
  split at e
  · cases rx
    cases ry
    split at e
    · rename_i hz
      cases e
      unfold powOk at hz
      simp only [Bool.and_eq_true] at hz
      exact ⟨_, _, rfl, rfl, ⟨of_decide_eq_true hz.1.1, of_decide_eq_true hz.1.2, of_decide_eq_true hz.2⟩, h _ F H (.refl s) (.int _)⟩
    · cases e
  · cases e
theorem s_lt : OpS X.K (rI0 fun i j => .bl (decide (i < j))) dLt := by
  intro F H x y dx dy d Q s rx ry e h
  unfold dLt at e
  split at e
  · cases rx; cases ry; cases e; exact ⟨_, _, rfl, rfl, h _ F H (.refl s) (.bl _)⟩
  · cases e
theorem s_le : OpS X.K (rI0 fun i j => .bl (decide (i ≤ j))) dLe := by
  intro F H x y dx dy d Q s rx ry e h
  unfold dLe at e
  split at e
  · cases rx; cases ry; cases e; exact ⟨_, _, rfl, rfl, h _ F H (.refl s) (.bl _)⟩
  · cases e
theorem s_gt : OpS X.K (rI0 fun i j => .bl (decide (j < i))) dGt := by
  intro F H x y dx dy d Q s rx ry e h
  unfold dGt at e
  split at e
  · cases rx; cases ry; cases e; exact ⟨_, _, rfl, rfl, h _ F H (.refl s) (.bl _)⟩
  · cases e
theorem s_ge : OpS X.K (rI0 fun i j => .bl (decide (j ≤ i))) dGe := by
  intro F H x y dx dy d Q s rx ry e h
  unfold dGe at e
  split at e
  · cases rx; cases ry; cases e; exact ⟨_, _, rfl, rfl, h _ F H (.refl s) (.bl _)⟩
  · cases e
theorem s_eq : OpS X.K (rEqD X.K) dEq := by
  intro F H x y dx dy d Q s rx ry e h
  unfold dEq at e
  split at e
  · rename_i hz
    rw [Bool.and_eq_true] at hz
    cases e
    exact ⟨_, _, rx.dp s _ (SeqAt.canLay_of_shaped hz.1), ry.dp s _ (SeqAt.canLay_of_shaped hz.2), hz.1, hz.2, h _ F H (.refl s) (.bl _)⟩
  · cases e
theorem s_ne : OpS X.K (rNeD X.K) dNe := by
  intro F H x y dx dy d Q s rx ry e h
  unfold dNe at e
  split at e
  · rename_i hz
    rw [Bool.and_eq_true] at hz
    cases e
    exact ⟨_, _, rx.dp s _ (SeqAt.canLay_of_shaped hz.1), ry.dp s _ (SeqAt.canLay_of_shaped hz.2), hz.1, hz.2, h _ F H (.refl s) (.bl _)⟩
  · cases e
def isNon : D → Bool
  | .non => true
  | _ => false
theorem rep_non {K : PySem.W.Frag} {F : Hp} {v : V} {d : D} (r : Rep K F v d) : decide (v = V.non) = isNon d := by
  cases r <;> rfl
theorem s_isN : OpS X.K (fun x y H Q => y = .non ∧ Q (.bl (decide (x = .non))) H) dIsN := by
  intro F H x y dx dy d Q s rx ry e h
  unfold dIsN at e
  split at e
  · cases rx; cases ry; cases e; exact ⟨rfl, h _ F H (.refl s) (.bl _)⟩
  · rename_i hn
    cases ry
    cases e
    refine ⟨rfl, ?_⟩
    rw [rep_non rx]
    have e : isNon dx = false := by
      cases dx <;> first | rfl | exact (hn rfl).elim
    rw [e]
    exact h _ F H (.refl s) (.bl _)
  · cases e
theorem s_notN : OpS X.K (fun x y H Q => y = .non ∧ Q (.bl (!decide (x = .non))) H) dNotN := by
  intro F H x y dx dy d Q s rx ry e h
  unfold dNotN at e
  split at e
  · cases rx; cases ry; cases e; exact ⟨rfl, h _ F H (.refl s) (.bl _)⟩
  · rename_i hn
    cases ry
    cases e
    refine ⟨rfl, ?_⟩
    rw [rep_non rx]
    have e : isNon dx = false := by
      cases dx <;> first | rfl | exact (hn rfl).elim
    rw [e]
    exact h _ F H (.refl s) (.bl _)
  · cases e

/-! ### the operators in short -/
variable {W : WX} {o l : List Nat} {e a b c : Expr} {m ma mb mc : Sl → R} {pos : Pos}
theorem c_add (ha : PE X a (cE X.K X.mg W o l ma)) (hb : PE X b (cE X.K X.mg W o l mb)) : PE X (.BinOp a .Add b pos) (cE X.K X.mg W o l (e2 dAdd ma mb)) := c_op op_addAll s_add calm_add ha hb
theorem c_sub (ha : PE X a (cE X.K X.mg W o l ma)) (hb : PE X b (cE X.K X.mg W o l mb)) : PE X (.BinOp a .Sub b pos) (cE X.K X.mg W o l (e2 dSub ma mb)) := c_op op_sub s_sub calm_sub ha hb
theorem c_mul (ha : PE X a (cE X.K X.mg W o l ma)) (hb : PE X b (cE X.K X.mg W o l mb)) : PE X (.BinOp a .Mult b pos) (cE X.K X.mg W o l (e2 dMulI ma mb)) := c_op op_mulB s_mul calm_mulI ha hb
theorem c_div (ha : PE X a (cE X.K X.mg W o l ma)) (hb : PE X b (cE X.K X.mg W o l mb)) : PE X (.BinOp a .FloorDiv b pos) (cE X.K X.mg W o l (e2 dDiv ma mb)) := c_op op_fdivW s_div calm_div ha hb
theorem c_mod (ha : PE X a (cE X.K X.mg W o l ma)) (hb : PE X b (cE X.K X.mg W o l mb)) : PE X (.BinOp a .Mod b pos) (cE X.K X.mg W o l (e2 dMod ma mb)) := c_op op_mod s_mod calm_mod ha hb
theorem c_pow (ha : PE X a (cE X.K X.mg W o l ma)) (hb : PE X b (cE X.K X.mg W o l mb)) : PE X (.BinOp a .Pow b pos) (cE X.K X.mg W o l (e2 dPow ma mb)) := c_op op_pow s_pow calm_pow ha hb
def e1 (f : D → R) (m : Sl → R) (ρ : Sl) : R := (m ρ).bind f
theorem c_neg (ha : PE X a (cE X.K X.mg W o l ma)) : PE X (.UnaryOp .USub a pos) (cE X.K X.mg W o l (e1 dNeg ma)) := by
  refine PE.sub (pe_un un_neg ha) fun σ H Q hh => ?_
  obtain ⟨ρ, B, F, r, p⟩ := hh
  refine cE.bind r p fun d v F' H' x r' q p' => ?_
  cases q with
  | int i => exact ⟨i, rfl, p' _ F' H' (.refl x.s) (.int _)⟩
  | _ => exact p'.elim
theorem c_lt (ha : PE X a (cE X.K X.mg W o l ma)) (hb : PE X b (cE X.K X.mg W o l mb)) : PE X (.Compare a [.Lt] [b] pos) (cE X.K X.mg W o l (e2 dLt ma mb)) := c_cmp op_lt s_lt calm_lt ha hb (nomark _)
theorem c_le (ha : PE X a (cE X.K X.mg W o l ma)) (hb : PE X b (cE X.K X.mg W o l mb)) : PE X (.Compare a [.LtE] [b] pos) (cE X.K X.mg W o l (e2 dLe ma mb)) := c_cmp op_le s_le calm_le ha hb (nomark _)
theorem c_gt (ha : PE X a (cE X.K X.mg W o l ma)) (hb : PE X b (cE X.K X.mg W o l mb)) : PE X (.Compare a [.Gt] [b] pos) (cE X.K X.mg W o l (e2 dGt ma mb)) := c_cmp op_gt s_gt calm_gt ha hb (nomark _)
theorem c_ge (ha : PE X a (cE X.K X.mg W o l ma)) (hb : PE X b (cE X.K X.mg W o l mb)) : PE X (.Compare a [.GtE] [b] pos) (cE X.K X.mg W o l (e2 dGe ma mb)) := c_cmp op_ge s_ge calm_ge ha hb (nomark _)
theorem c_eq (hu : X.A.units + 64 < cLine) (ha : PE X a (cE X.K X.mg W o l ma)) (hb : PE X b (cE X.K X.mg W o l mb)) : PE X (.Compare a [.Eq] [b] pos) (cE X.K X.mg W o l (e2 dEq ma mb)) := c_cmp (op_eqD hu) s_eq calm_eq ha hb (nomark _)
theorem c_ne (hu : X.A.units + 64 < cLine) (ha : PE X a (cE X.K X.mg W o l ma)) (hb : PE X b (cE X.K X.mg W o l mb)) : PE X (.Compare a [.NotEq] [b] pos) (cE X.K X.mg W o l (e2 dNe ma mb)) := c_cmp (op_neD hu) s_ne calm_ne ha hb (nomark _)
theorem c_isN (ha : PE X a (cE X.K X.mg W o l ma)) (hb : PE X b (cE X.K X.mg W o l mb)) : PE X (.Compare a [.Is] [b] pos) (cE X.K X.mg W o l (e2 dIsN ma mb)) := c_cmp op_isN s_isN calm_isN ha hb (nomark _)
theorem c_notN (ha : PE X a (cE X.K X.mg W o l ma)) (hb : PE X b (cE X.K X.mg W o l mb)) : PE X (.Compare a [.IsNot] [b] pos) (cE X.K X.mg W o l (e2 dNotN ma mb)) := c_cmp op_notN s_notN calm_notN ha hb (nomark _)
theorem t_lt (ha : PE X a (cE X.K X.mg W o l ma)) (hb : PE X b (cE X.K X.mg W o l mb)) : PT X (.Compare a [.Lt] [b] pos) (cT X.K X.mg W o l (tt (e2 dLt ma mb))) := t_cmp op_lt s_lt calm_lt ha hb (nomark _)
theorem t_le (ha : PE X a (cE X.K X.mg W o l ma)) (hb : PE X b (cE X.K X.mg W o l mb)) : PT X (.Compare a [.LtE] [b] pos) (cT X.K X.mg W o l (tt (e2 dLe ma mb))) := t_cmp op_le s_le calm_le ha hb (nomark _)
theorem t_gt (ha : PE X a (cE X.K X.mg W o l ma)) (hb : PE X b (cE X.K X.mg W o l mb)) : PT X (.Compare a [.Gt] [b] pos) (cT X.K X.mg W o l (tt (e2 dGt ma mb))) := t_cmp op_gt s_gt calm_gt ha hb (nomark _)
theorem t_ge (ha : PE X a (cE X.K X.mg W o l ma)) (hb : PE X b (cE X.K X.mg W o l mb)) : PT X (.Compare a [.GtE] [b] pos) (cT X.K X.mg W o l (tt (e2 dGe ma mb))) := t_cmp op_ge s_ge calm_ge ha hb (nomark _)
theorem t_eq (hu : X.A.units + 64 < cLine) (ha : PE X a (cE X.K X.mg W o l ma)) (hb : PE X b (cE X.K X.mg W o l mb)) : PT X (.Compare a [.Eq] [b] pos) (cT X.K X.mg W o l (tt (e2 dEq ma mb))) := t_cmp (op_eqD hu) s_eq calm_eq ha hb (nomark _)
theorem t_ne (hu : X.A.units + 64 < cLine) (ha : PE X a (cE X.K X.mg W o l ma)) (hb : PE X b (cE X.K X.mg W o l mb)) : PT X (.Compare a [.NotEq] [b] pos) (cT X.K X.mg W o l (tt (e2 dNe ma mb))) := t_cmp (op_neD hu) s_ne calm_ne ha hb (nomark _)
theorem t_isN (ha : PE X a (cE X.K X.mg W o l ma)) (hb : PE X b (cE X.K X.mg W o l mb)) : PT X (.Compare a [.Is] [b] pos) (cT X.K X.mg W o l (tt (e2 dIsN ma mb))) := t_cmp op_isN s_isN calm_isN ha hb (nomark _)
theorem t_notN (ha : PE X a (cE X.K X.mg W o l ma)) (hb : PE X b (cE X.K X.mg W o l mb)) : PT X (.Compare a [.IsNot] [b] pos) (cT X.K X.mg W o l (tt (e2 dNotN ma mb))) := t_cmp op_notN s_notN calm_notN ha hb (nomark _)
/-! ### a chain of two comparisons -/
def eCh (f g : D → D → R) (ma mb mc : Sl → R) (ρ : Sl) : R := (ma ρ).bind fun x => (mb ρ).bind fun y => (f x y).bind fun z => match z with
  | .bl true => (mc ρ).bind fun w => g y w
  | .bl false => .ok (.bl false)
  | _ => .bad
theorem eCh_post {r r' : R2} {f g : D → D → R} (hf : OpS X.K r f) (hc : Calm f) (hg : OpS X.K r' g) (hc' : Calm g) {σ : St} {H : Hp} {Q : VK} (h : cE X.K X.mg W o l (eCh f g ma mb mc) σ H Q) :
    tChain r r' (cE X.K X.mg W o l ma) (cE X.K X.mg W o l mb) (cE X.K X.mg W o l mc) σ H Q := by
  obtain ⟨ρ, B, F, rl, p⟩ := h
  refine cE.bind rl p fun d v F1 H1 x1 r1 q1 p1 => ?_
  refine cE.bind r1 p1 fun d2 v2 F2 H2 x2 r2 q2 p2 => ?_
  cases ef : f d d2 with
  | ok z =>
    rw [ef] at p2
    refine hf F2 H2 v v2 d d2 z _ x2.s (q1.up x2.f) q2 ef fun v3 F3 H3 x3 q3 => ?_
    cases z with
    | bl k =>
      cases q3
      refine ⟨k, rfl, ?_⟩
      cases k with
      | true =>
        refine iteT ?_
        have r3 := r2.ext x3
        have p3 : PostE X.K X.mg F3 H3 Q (fun c d H' => W c d σ H') ((mc ρ).bind fun w => g d2 w) := PostE.ext x3 p2
        refine cE.bind r3 p3 fun d4 v4 F4 H4 x4 r4 q4 p4 => ?_
        cases eg : g d2 d4 with
        | ok z => rw [eg] at p4; exact hg F4 H4 v2 v4 d2 d4 z Q x4.s (q2.up (x3.f.trans x4.f)) q4 eg p4
        | exc c ns ds => exact absurd eg (hc' _ _ _ _ _)
        | bad => rw [eg] at p4; exact p4.elim
      | false => exact iteF (p2 _ F3 H3 x3 (.bl false))
    | _ => exact p2.elim
  | exc c ns ds => exact absurd ef (hc _ _ _ _ _)
  | bad => rw [ef] at p2; exact p2.elim
theorem c_chain {op op' : CmpOp} {r r' : R2} {f g : D → D → R} (ho : OpR X (compareOp op) r) (hf : OpS X.K r f) (hcf : Calm f) (ho' : OpR X (compareOp op') r') (hg : OpS X.K r' g) (hcg : Calm g) (ha : PE X a (cE X.K X.mg W o l ma)) (hb : PE X b (cE X.K X.mg W o l mb)) (hc : PE X c (cE X.K X.mg W o l mc))
    (hm : lastMarks [op, op'] [b, c] = false := by with_unfolding_all rfl) : PE X (.Compare a [op, op'] [b, c] pos) (cE X.K X.mg W o l (eCh f g ma mb mc)) := PE.sub (pe_chain ho ho' ha hb hc hm) fun σ H Q h => eCh_post hf hcf hg hcg h
theorem t_chain {op op' : CmpOp} {r r' : R2} {f g : D → D → R} (ho : OpR X (compareOp op) r) (hf : OpS X.K r f) (hcf : Calm f) (ho' : OpR X (compareOp op') r') (hg : OpS X.K r' g) (hcg : Calm g) (ha : PE X a (cE X.K X.mg W o l ma)) (hb : PE X b (cE X.K X.mg W o l mb)) (hc : PE X c (cE X.K X.mg W o l mc))
    (hm : lastMarks [op, op'] [b, c] = false := by with_unfolding_all rfl) : PT X (.Compare a [op, op'] [b, c] pos) (cT X.K X.mg W o l (tt (eCh f g ma mb mc))) := by
  refine PT.sub (pt_chain ho ho' ha hb hc hm) fun σ H Q h => ?_
  obtain ⟨ρ, B, F, r, p⟩ := h
  refine eCh_post (f := f) (g := g) hf hcf hg hcg ⟨ρ, B, F, r, ?_⟩
  unfold tt at p
  cases e : eCh f g ma mb mc ρ with
  | ok d =>
    rw [e] at p
    cases d with
    | bl b =>
      intro v F' H' x q
      cases q
      exact ⟨b, rfl, p F' H' x⟩
    | _ => exact p.elim
  | exc c ns ds => rw [e] at p; exact p
  | bad => rw [e] at p; exact p
end
end L2.Pd

/-! Rules for expressions: arguments, displays, calls, items, slices, isinstance. -/
namespace L2.Pd
open PySem PySem.Spec PyProof.Rows
section
variable {X : Cx} {W : WX} {o l : List Nat} {e a b c : Expr} {es : List Expr} {m ma mb mc : Sl → R} {ms : Sl → Rs (List D)} {pos p apos : Pos}
/-! ### arguments, displays -/
def aNil (_ : Sl) : Rs (List D) := .ok []
def aCons (m : Sl → R) (ms : Sl → Rs (List D)) (ρ : Sl) : Rs (List D) := (m ρ).bind fun x => (ms ρ).bind fun xs => .ok (x :: xs)
theorem a_nil : PA X [] (cA X.K X.mg W o l aNil) := PA.sub pa_nil fun σ H Q hh => by
  obtain ⟨ρ, B, F, r, p⟩ := hh
  exact p [] F H (.refl r.fh) .nil
theorem a_cons (ha : PE X e (cE X.K X.mg W o l m)) (hr : PA X es (cA X.K X.mg W o l ms)) (hs : starEach (e :: es) X.env = (false, eval e X.env) :: starEach es X.env := by rfl) : PA X (e :: es) (cA X.K X.mg W o l (aCons m ms)) := by
  refine PA.sub (pa_cons ha hr hs) fun σ H Q hh => ?_
  obtain ⟨ρ, B, F, r, p⟩ := hh
  refine cE.bindA r p fun d v F1 H1 x1 r1 q1 p1 => ?_
  exact cA.bindA r1 p1 fun ds vs F2 H2 x2 r2 q2 p2 => p2 _ F2 H2 (.refl x2.s) (.cons (q1.up x2.f) q2)
def eTup (ms : Sl → Rs (List D)) (ρ : Sl) : R := (ms ρ).bind fun ds => if sizeOkN ds.length then .ok (.tup ds) else .bad
def eLst (ms : Sl → Rs (List D)) (ρ : Sl) : R := (ms ρ).bind fun ds => if sizeOkN ds.length then .ok (.lst ds) else .bad
theorem c_tup {x1} (h : PA X es (cA X.K X.mg W o l ms)) : PE X (.Tuple es x1 pos) (cE X.K X.mg W o l (eTup ms)) := by
  refine PE.sub (pe_tup h) fun σ H Q hh => ?_
  obtain ⟨ρ, B, F, r, p⟩ := hh
  refine cA.bind r p fun ds vs F1 H1 x1 r1 q1 p1 => ?_
  split at p1
  · rename_i hz
    exact ⟨by rw [q1.length]; exact sizeOkN_le hz, fun t ht => p1 _ _ _ (.new x1.s ht) (.tup (.inl (.inl upd_same)) (q1.up (Ext.new x1.s ht).f))⟩
  · exact p1.elim
theorem PostF.mk {K : PySem.W.Frag} {mg : Str → Option Value} {F H : Hp} {Q : VK} {W : XW} {ds : List D} {vs : List V} (p : PostF K mg F H Q W (.ok (.lst ds))) (s : Same F H) (r : Reps K F vs ds) (t : Addr) (ht : H t = none) : Q (.ref t) (upd H t (.lst vs)) :=
  p t F _ (.own s ht) ht (s.free ht) ⟨vs, upd_same, r⟩
/-- a binding of a part ahead of something new -/
theorem cA.bindF {K : PySem.W.Frag} {mg : Str → Option Value} {W : WX} {o l : List Nat} {m : Sl → Rs (List D)} {σ : St} {H : Hp} {ρ : Sl} {B : Bs} {F : Hp} {k : List D → R} {Q : VK} {Q' : List V → Hp → Prop}
    (r : Rl K o l ρ σ B F H) (p : PostF K mg F H Q (fun c d H' => W c d σ H') ((m ρ).bind k))
    (h : ∀ d v F' H', Ext F H F' H' → Rl K o l ρ σ B F' H' → Reps K F' v d → PostF K mg F' H' Q (fun c d H' => W c d σ H') (k d) → Q' v H') : cA K mg W o l m σ H Q' := by
  have up : ∀ {F1 H1 : Hp} (x : Ext F H F1 H1) {r : R}, PostF K mg F H Q (fun c d H' => W c d σ H') r → PostF K mg F1 H1 Q (fun c d H' => W c d σ H') r := fun {F1 H1} x {r} h => by
    cases r with
    | ok d => exact fun p F' H' x' n => h p F' H' (x.trans x') (x.h.free n)
    | exc c ns ds => exact fun c d F' H' x' => h c d F' H' (x.trans x')
    | bad => exact h
  refine ⟨ρ, B, F, r, ?_⟩
  cases e : m ρ with
  | ok d =>
    rw [e] at p
    exact fun v F' H' x q => h d v F' H' x (r.ext x) q (up x p)
  | exc c ns ds => rw [e] at p; exact p
  | bad => rw [e] at p; exact p
theorem PostF.ext {K : PySem.W.Frag} {mg : Str → Option Value} {F H F1 H1 : Hp} {Q : VK} {W : XW} (x : Ext F H F1 H1) : ∀ {r : R}, PostF K mg F H Q W r → PostF K mg F1 H1 Q W r
  | .ok _, h => fun p F' H' x' n => h p F' H' (x.trans x') (x.h.free n)
  | .exc _ _ _, h => fun c d F' H' x' => h c d F' H' (x.trans x')
theorem cB.bindF {K : PySem.W.Frag} {mg : Str → Option Value} {W : WX} {o l : List Nat} {m : Sl → R} {σ : St} {H : Hp} {ρ : Sl} {B : Bs} {F : Hp} {k : D → R} {Q Q' : VK}
    (r : Rl K o l ρ σ B F H) (hk : ∀ d, okB d = false → k d = .bad) (p : PostF K mg F H Q (fun c d H' => W c d σ H') ((m ρ).bind k))
    (h : ∀ d v F' H', Ext F H F' H' → Rl K o l ρ σ B F' H' → Look K F' H' v d → PostF K mg F' H' Q (fun c d H' => W c d σ H') (k d) → Q' v H') : cB K mg W o l m σ H Q' := by
  refine ⟨ρ, B, F, r, ?_⟩
  cases e : m ρ with
  | ok d =>
    rw [e] at p
    have p : PostF K mg F H Q (fun c d H' => W c d σ H') (k d) := p
    cases d with
    | lst ds => exact fun a xs F' H' x q1 q2 => h _ _ F' H' x (r.ext x) (.lst q1 q2) (p.ext x)
    | tup ds => exact fun a xs F' H' x q1 q2 => h _ _ F' H' x (r.ext x) (.tup q1 q2) (p.ext x)
    | dic ks ds => exact fun a xs F' H' x q1 q2 q3 => h _ _ F' H' x (r.ext x) (.dic q1 q2 q3) (p.ext x)
    | str y => exact fun F' H' x => h _ _ F' H' x (r.ext x) .str (p.ext x)
    | non => rw [hk _ rfl] at p; exact p
    | bl b => rw [hk _ rfl] at p; exact p
    | int b => rw [hk _ rfl] at p; exact p
    | obj c ns vs => rw [hk _ rfl] at p; exact p
  | exc c ns ds => rw [e] at p; exact p
  | bad => rw [e] at p; exact p
theorem f_lst (h : PA X es (cA X.K X.mg W o l ms)) : PE X (.List es pos) (cF X.K X.mg W o l (eLst ms)) := by
  refine PE.sub (pe_lst h) fun σ H Q hh => ?_
  obtain ⟨ρ, B, F, r, p⟩ := hh
  refine cA.bindF r p fun ds vs F1 H1 x1 r1 q1 p1 => ?_
  split at p1
  · rename_i hz
    exact ⟨by rw [q1.length]; exact sizeOkN_le hz, fun t ht => PostF.mk p1 x1.s q1 t ht⟩
  · exact p1.elim
theorem c_lst (h : PA X es (cA X.K X.mg W o l ms)) : PE X (.List es pos) (cE X.K X.mg W o l (eLst ms)) := of_new (f_lst h)

/-! ### own defs -/
/-- a def's promise: of n arguments, by f -/
def spOf (K : PySem.W.Frag) (mg : Str → Option Value) (n : Nat) (f : List D → R) : Sp := fun vs H Q E => ∃ ds F, Same F H ∧ Reps K F vs ds ∧ ds.length = n ∧ PostE K mg F H Q E (f ds)
def eCall (f : List D → R) (ms : Sl → Rs (List D)) (ρ : Sl) : R := (ms ρ).bind f
theorem c_call {f : List D → R} {x : Str} {fa : Addr} {fd : FuncData} {ps : List Str} {n k : Nat} (G : FnOk X.prog X.w X.K X.mg X.base (L2.CX X.prog X.w) k fa fd ps (spOf X.K X.mg n f)) (hn : ∀ ds, ds.length ≠ n → f ds = .bad) (hr : Room k X.A)
    (hm : X.mg x = some (.ref fa)) (hk : PySem.W.keepIn X.K (.ref fa) = true) (hb : Binds X.K fd ps []) (tk : Takes X W) (ha : PA X (e :: es) (cA X.K X.mg W o l ms)) (hg : Gl X x := by rfl)
    (hdb : (x == ("__debug__" : Str)) = false := by decide) (he : starEach (e :: es) X.env = (false, eval e X.env) :: starEach es X.env := by rfl) (hpl : (backTo pos (starEach es X.env)).any (·.1) = false := by rfl) :
    PE X (.Call (.Name x p) (e :: es) [] pos) (cE X.K X.mg W o l (eCall f ms)) := by
  refine PE.sub (pe_callS G hr hg hm hk hb (fun σ => passAt tk σ) ha hdb he hpl) fun σ H Q hh => ?_
  obtain ⟨ρ, B, F, r, q⟩ := hh
  refine cA.bind r q fun ds vs F1 H1 x1 r1 q1 p1 => ?_
  refine ⟨ds, F1, x1.s, q1, ?_, p1⟩
  by_cases h : ds.length = n
  · exact h
  · rw [hn ds h] at p1
    exact p1.elim

/-! ### built-ins by values -/
def CallS (K : PySem.W.Frag) (r : List V → Hp → VK → Prop) (f : List D → R) : Prop := ∀ F H vs ds d Q, Same F H → Reps K F vs ds → f ds = .ok d → (∀ v F' H', Ext F H F' H' → Rep K F' v d → Q v H') → r vs H Q
def CalmL (f : List D → R) : Prop := ∀ x c ns ds, f x ≠ .exc c ns ds
theorem callS_post {r : List V → Hp → VK → Prop} {f : List D → R} (hf : CallS X.K r f) (hc : CalmL f) {σ : St} {H : Hp} {Q : VK} (h : cE X.K X.mg W o l (eCall f ms) σ H Q) : cA X.K X.mg W o l ms σ H fun vs H1 => r vs H1 Q := by
  obtain ⟨ρ, B, F, rl, p⟩ := h
  refine cA.bind rl p fun ds vs F1 H1 x1 r1 q1 p1 => ?_
  cases ef : f ds with
  | ok z => rw [ef] at p1; exact hf F1 H1 vs ds z Q x1.s q1 ef p1
  | exc c ns ds => exact absurd ef (hc _ _ _ _)
  | bad => rw [ef] at p1; exact p1.elim
theorem c_callB {x : Str} {id : String} {r : List V → Hp → VK → Prop} {f : List D → R} (hc : CallR X (.builtin id) r) (hf : CallS X.K r f) (hcm : CalmL f) (hm : X.mg x = none) (hv : bootBuiltins x = some (.builtin id)) (ha : PA X (e :: es) (cA X.K X.mg W o l ms)) (hg : Gl X x := by rfl)
    (hn : x ≠ "__name__" := by decide) (hdb : (x == ("__debug__" : Str)) = false := by decide) (he : starEach (e :: es) X.env = (false, eval e X.env) :: starEach es X.env := by rfl) (hpl : (backTo pos (starEach es X.env)).any (·.1) = false := by rfl) :
    PE X (.Call (.Name x p) (e :: es) [] pos) (cE X.K X.mg W o l (eCall f ms)) := PE.sub (pe_callB hc hg hm hv ha hn hdb he hpl) fun _ _ _ h => callS_post hf hcm h
theorem c_callTy {x : Str} {T : String} {r : List V → Hp → VK → Prop} {f : List D → R} (hc : CallR X (.type T) r) (hf : CallS X.K r f) (hcm : CalmL f) (hm : X.mg x = none) (hv : bootBuiltins x = some (.type T)) (ha : PA X (e :: es) (cA X.K X.mg W o l ms)) (hg : Gl X x := by rfl)
    (hn : x ≠ "__name__" := by decide) (hdb : (x == ("__debug__" : Str)) = false := by decide) (he : starEach (e :: es) X.env = (false, eval e X.env) :: starEach es X.env := by rfl) (hpl : (backTo pos (starEach es X.env)).any (·.1) = false := by rfl) :
    PE X (.Call (.Name x p) (e :: es) [] pos) (cE X.K X.mg W o l (eCall f ms)) := PE.sub (pe_callTy hc hg hm hv ha hn hdb he hpl) fun _ _ _ h => callS_post hf hcm h
/-- one container, looked into -/
def LookS (K : PySem.W.Frag) (r : List V → Hp → VK → Prop) (f : D → R) : Prop := ∀ F H v d d' Q, Same F H → Look K F H v d → f d = .ok d' → (∀ v F' H', Ext F H F' H' → Rep K F' v d' → Q v H') → r [v] H Q
def LookF (K : PySem.W.Frag) (r : List V → Hp → VK → Prop) (f : D → R) : Prop := ∀ F H v d d' Q, Same F H → Look K F H v d → f d = .ok d' → (∀ p F' H', Ext F H F' H' → H p = none → F' p = none → Cell K F' H' p d' → Q (.ref p) H') → r [v] H Q
def Calm1 (f : D → R) : Prop := (∀ x c ns ds, f x ≠ .exc c ns ds) ∧ ∀ d, okB d = false → f d = .bad
theorem lookS_post {r : List V → Hp → VK → Prop} {f : D → R} (hf : LookS X.K r f) (hc : Calm1 f) {σ : St} {H : Hp} {Q : VK} (h : cE X.K X.mg W o l (e1 f m) σ H Q) : tCons (cB X.K X.mg W o l m) tNil σ H fun vs H1 => r vs H1 Q := by
  obtain ⟨ρ, B, F, rl, p⟩ := h
  refine cB.bind rl hc.2 p fun d v F1 H1 x1 r1 q1 p1 => ?_
  cases ef : f d with
  | ok z => rw [ef] at p1; exact hf F1 H1 v d z Q x1.s q1 ef p1
  | exc c ns ds => exact absurd ef (hc.1 _ _ _ _)
  | bad => rw [ef] at p1; exact p1.elim
theorem lookF_post {r : List V → Hp → VK → Prop} {f : D → R} (hf : LookF X.K r f) (hc : Calm1 f) {σ : St} {H : Hp} {Q : VK} (h : cF X.K X.mg W o l (e1 f m) σ H Q) : tCons (cB X.K X.mg W o l m) tNil σ H fun vs H1 => r vs H1 Q := by
  obtain ⟨ρ, B, F, rl, p⟩ := h
  refine cB.bindF rl hc.2 p fun d v F1 H1 x1 r1 q1 p1 => ?_
  cases ef : f d with
  | ok z => rw [ef] at p1; exact hf F1 H1 v d z Q x1.s q1 ef p1
  | exc c ns ds => exact absurd ef (hc.1 _ _ _ _)
  | bad => rw [ef] at p1; exact p1.elim
section
variable {x : Str} {id T : String} {r : List V → Hp → VK → Prop} {f : D → R}
theorem c_lookB (hc : CallR X (.builtin id) r) (hf : LookS X.K r f) (hcm : Calm1 f) (hm : X.mg x = none) (hv : bootBuiltins x = some (.builtin id)) (ha : PE X e (cB X.K X.mg W o l m)) (hg : Gl X x := by rfl)
    (hn : x ≠ "__name__" := by decide) (hdb : (x == ("__debug__" : Str)) = false := by decide) (he : starEach (e :: []) X.env = (false, eval e X.env) :: starEach [] X.env := by rfl) (hpl : (backTo pos (starEach [] X.env)).any (·.1) = false := by rfl) :
    PE X (.Call (.Name x p) [e] [] pos) (cE X.K X.mg W o l (e1 f m)) := PE.sub (pe_callB hc hg hm hv (pa_cons ha pa_nil he) hn hdb he hpl) fun _ _ _ h => lookS_post hf hcm h
theorem c_lookTy (hc : CallR X (.type T) r) (hf : LookS X.K r f) (hcm : Calm1 f) (hm : X.mg x = none) (hv : bootBuiltins x = some (.type T)) (ha : PE X e (cB X.K X.mg W o l m)) (hg : Gl X x := by rfl)
    (hn : x ≠ "__name__" := by decide) (hdb : (x == ("__debug__" : Str)) = false := by decide) (he : starEach (e :: []) X.env = (false, eval e X.env) :: starEach [] X.env := by rfl) (hpl : (backTo pos (starEach [] X.env)).any (·.1) = false := by rfl) :
    PE X (.Call (.Name x p) [e] [] pos) (cE X.K X.mg W o l (e1 f m)) := PE.sub (pe_callTy hc hg hm hv (pa_cons ha pa_nil he) hn hdb he hpl) fun _ _ _ h => lookS_post hf hcm h
theorem f_lookB (hc : CallR X (.builtin id) r) (hf : LookF X.K r f) (hcm : Calm1 f) (hm : X.mg x = none) (hv : bootBuiltins x = some (.builtin id)) (ha : PE X e (cB X.K X.mg W o l m)) (hg : Gl X x := by rfl)
    (hn : x ≠ "__name__" := by decide) (hdb : (x == ("__debug__" : Str)) = false := by decide) (he : starEach (e :: []) X.env = (false, eval e X.env) :: starEach [] X.env := by rfl) (hpl : (backTo pos (starEach [] X.env)).any (·.1) = false := by rfl) :
    PE X (.Call (.Name x p) [e] [] pos) (cF X.K X.mg W o l (e1 f m)) := PE.sub (pe_callB hc hg hm hv (pa_cons ha pa_nil he) hn hdb he hpl) fun _ _ _ h => lookF_post hf hcm h
theorem f_lookTy (hc : CallR X (.type T) r) (hf : LookF X.K r f) (hcm : Calm1 f) (hm : X.mg x = none) (hv : bootBuiltins x = some (.type T)) (ha : PE X e (cB X.K X.mg W o l m)) (hg : Gl X x := by rfl)
    (hn : x ≠ "__name__" := by decide) (hdb : (x == ("__debug__" : Str)) = false := by decide) (he : starEach (e :: []) X.env = (false, eval e X.env) :: starEach [] X.env := by rfl) (hpl : (backTo pos (starEach [] X.env)).any (·.1) = false := by rfl) :
    PE X (.Call (.Name x p) [e] [] pos) (cF X.K X.mg W o l (e1 f m)) := PE.sub (pe_callTy hc hg hm hv (pa_cons ha pa_nil he) hn hdb he hpl) fun _ _ _ h => lookF_post hf hcm h
end
/-! ### len, list, tuple -/
def dLen : D → R
  | .lst ds => .ok (.int ds.length)
  | .tup ds => .ok (.int ds.length)
  | .str x => if sizeOkN x.length then .ok (.int x.length) else .bad
  | _ => .bad
def dList : D → R
  | .lst ds => .ok (.lst ds)
  | .tup ds => .ok (.lst ds)
  | _ => .bad
def dTuple : D → R
  | .lst ds => .ok (.tup ds)
  | _ => .bad
theorem calm_len : Calm1 dLen := ⟨fun x c ns ds h => (by unfold dLen at h; split at h <;> first | cases h | (split at h <;> cases h)), fun d h => by cases d <;> first | rfl | cases h⟩
theorem calm_list : Calm1 dList := ⟨fun x c ns ds h => (by unfold dList at h; split at h <;> cases h), fun d h => by cases d <;> first | rfl | cases h⟩
theorem calm_tuple : Calm1 dTuple := ⟨fun x c ns ds h => (by unfold dTuple at h; split at h <;> cases h), fun d h => by cases d <;> first | rfl | cases h⟩
theorem l_len : LookS X.K (fun xs H Q => ∃ x n, xs = [x] ∧ LenV X.K x H n ∧ Q (.int n) H) dLen := by
  intro F H v d d' Q s k e h
  cases k with
  | lst h1 h2 =>
    cases e
    exact ⟨_, _, rfl, .inl ⟨_, h1, h2.length.symm⟩, h _ F H (.refl s) (.int _)⟩
  | tup h1 h2 =>
    cases e
    exact ⟨_, _, rfl, .inr ⟨_, h1, h2.length.symm⟩, h _ F H (.refl s) (.int _)⟩
  | dic h1 h2 h3 => cases e
  | str =>
    unfold dLen at e
    dsimp only at e
    split at e
    · rename_i hz
      cases e
      exact ⟨_, _, rfl, ⟨sizeOkN_le hz, rfl⟩, h _ F H (.refl s) (.int _)⟩
    · cases e
theorem l_list : LookF X.K (fun xs H Q => ∃ p ys, xs = [.ref p] ∧ (SqL X.K H p ys ∨ SqT X.K H p ys) ∧ ∀ l, H l = none → Q (.ref l) (upd H l (.lst ys))) dList := by
  intro F H v d d' Q s k e h
  cases k with
  | lst h1 h2 =>
    cases e
    exact ⟨_, _, rfl, .inl h1, fun t ht => h t F _ (.own s ht) ht (s.free ht) ⟨_, upd_same, h2⟩⟩
  | tup h1 h2 =>
    cases e
    exact ⟨_, _, rfl, .inr h1, fun t ht => h t F _ (.own s ht) ht (s.free ht) ⟨_, upd_same, h2⟩⟩
  | dic h1 h2 h3 => cases e
  | str => cases e
theorem l_tuple : LookS X.K (fun xs H Q => ∃ p ys, xs = [.ref p] ∧ ((SqL X.K H p ys ∧ ∀ l, H l = none → Q (.ref l) (upd H l (.tup ys))) ∨ (SqT X.K H p ys ∧ Q (.ref p) H))) dTuple := by
  intro F H v d d' Q s k e h
  cases k with
  | lst h1 h2 =>
    cases e
    exact ⟨_, _, rfl, .inl ⟨h1, fun t ht => h _ _ _ (.new s ht) (.tup (.inl (.inl upd_same)) (h2.up (Ext.new s ht).f))⟩⟩
  | tup h1 h2 => cases e
  | dic h1 h2 h3 => cases e
  | str => cases e
theorem c_len (hm : X.mg "len" = none) (ha : PE X e (cB X.K X.mg W o l m)) (hg : Gl X "len" := by rfl) (he : starEach (e :: []) X.env = (false, eval e X.env) :: starEach [] X.env := by rfl) (hpl : (backTo pos (starEach [] X.env)).any (·.1) = false := by rfl) :
    PE X (.Call (.Name "len" p) [e] [] pos) (cE X.K X.mg W o l (e1 dLen m)) := c_lookB call_len l_len calm_len hm PySem.boot_len ha hg (by decide) (by decide) he hpl
theorem f_list (hm : X.mg "list" = none) (ha : PE X e (cB X.K X.mg W o l m)) (hg : Gl X "list" := by rfl) (he : starEach (e :: []) X.env = (false, eval e X.env) :: starEach [] X.env := by rfl) (hpl : (backTo pos (starEach [] X.env)).any (·.1) = false := by rfl) :
    PE X (.Call (.Name "list" p) [e] [] pos) (cF X.K X.mg W o l (e1 dList m)) := f_lookTy call_list_of l_list calm_list hm (by decide +kernel) ha hg (by decide) (by decide) he hpl
theorem c_tuple (hm : X.mg "tuple" = none) (ha : PE X e (cB X.K X.mg W o l m)) (hg : Gl X "tuple" := by rfl) (he : starEach (e :: []) X.env = (false, eval e X.env) :: starEach [] X.env := by rfl) (hpl : (backTo pos (starEach [] X.env)).any (·.1) = false := by rfl) :
    PE X (.Call (.Name "tuple" p) [e] [] pos) (cE X.K X.mg W o l (e1 dTuple m)) := c_lookTy call_tuple_of l_tuple calm_tuple hm (by decide +kernel) ha hg (by decide) (by decide) he hpl
/-! ### numbers -/
def dInt : List D → R
  | [.int i] => .ok (.int i)
  | [.bl b] => .ok (.int (if b then 1 else 0))
  | _ => .bad
def dMax2 : List D → R
  | [.int i, .int j] => .ok (.int (if j > i then j else i))
  | _ => .bad
def dMin2 : List D → R
  | [.int i, .int j] => .ok (.int (if j < i then j else i))
  | _ => .bad
theorem calm_int : CalmL dInt := fun x c ns ds h => by unfold dInt at h; split at h <;> cases h
theorem calm_max2 : CalmL dMax2 := fun x c ns ds h => by unfold dMax2 at h; split at h <;> cases h
theorem calm_min2 : CalmL dMin2 := fun x c ns ds h => by unfold dMin2 at h; split at h <;> cases h
theorem s_int : CallS X.K (fun xs H Q => (∃ i, xs = [.int i] ∧ Q (.int i) H) ∨ ∃ k, xs = [.bl k] ∧ Q (.int (if k then 1 else 0)) H) dInt := by
  intro F H vs ds d Q s r e h
  unfold dInt at e
  split at e
  · cases r with | cons r1 r2 => cases r1; cases r2; cases e; exact .inl ⟨_, rfl, h _ F H (.refl s) (.int _)⟩
  · cases r with | cons r1 r2 => cases r1; cases r2; cases e; exact .inr ⟨_, rfl, h _ F H (.refl s) (.int _)⟩
  · cases e
theorem s_max2 : CallS X.K (fun xs H Q => ∃ i j, xs = [.int i, .int j] ∧ Q (.int (if j > i then j else i)) H) dMax2 := by
  intro F H vs ds d Q s r e h
  unfold dMax2 at e
  split at e
  · cases r with | cons r1 r2 => cases r2 with | cons r2 r3 => cases r1; cases r2; cases r3; cases e; exact ⟨_, _, rfl, h _ F H (.refl s) (.int _)⟩
  · cases e
theorem s_min2 : CallS X.K (fun xs H Q => ∃ i j, xs = [.int i, .int j] ∧ Q (.int (if j < i then j else i)) H) dMin2 := by
  intro F H vs ds d Q s r e h
  unfold dMin2 at e
  split at e
  · cases r with | cons r1 r2 => cases r2 with | cons r2 r3 => cases r1; cases r2; cases r3; cases e; exact ⟨_, _, rfl, h _ F H (.refl s) (.int _)⟩
  · cases e
def ints? : List D → Option (List Int)
  | [] => some []
  | .int i :: r => (ints? r).map (i :: ·)
  | _ => none
theorem ints?_ok : ∀ {ds : List D} {ns : List Int}, ints? ds = some ns → ds = ns.map D.int
  | [], ns, h => by cases h; rfl
  | .int i :: r, ns, h => by
    unfold ints? at h
    obtain ⟨ms, h1, h2⟩ := Option.map_eq_some_iff.mp h
    subst h2
    rw [ints?_ok h1]
    rfl
  | .non :: r, ns, h => by cases h
  | .bl _ :: r, ns, h => by cases h
  | .str _ :: r, ns, h => by cases h
  | .lst _ :: r, ns, h => by cases h
  | .tup _ :: r, ns, h => by cases h
  | .dic _ _ :: r, ns, h => by cases h
  | .obj _ _ _ :: r, ns, h => by cases h
theorem ints?_map : ∀ ns : List Int, ints? (ns.map D.int) = some ns
  | [] => rfl
  | n :: r => by
    show (ints? (r.map D.int)).map (n :: ·) = some (n :: r)
    rw [ints?_map r]
    rfl
def maxL : List Int → Int
  | [] => 0
  | n :: r => r.foldl max n
def minL : List Int → Int
  | [] => 0
  | n :: r => r.foldl min n
theorem foldl_max_le : ∀ (r : List Int) (n : Int), n ≤ r.foldl max n ∧ (∀ y ∈ r, y ≤ r.foldl max n) ∧ (r.foldl max n = n ∨ r.foldl max n ∈ r)
  | [], n => ⟨Int.le_refl _, fun y h => (by cases h), .inl rfl⟩
  | m :: r, n => by
    obtain ⟨h1, h2, h3⟩ := foldl_max_le r (max n m)
    refine ⟨by show n ≤ r.foldl max (max n m); omega, fun y hy => ?_, ?_⟩
    · show y ≤ r.foldl max (max n m)
      rcases List.mem_cons.mp hy with e | e
      · omega
      · exact h2 y e
    · show r.foldl max (max n m) = n ∨ r.foldl max (max n m) ∈ m :: r
      rcases h3 with e | e
      · by_cases hm : n ≤ m
        · exact .inr (by rw [e, show max n m = m by omega]; exact List.mem_cons_self)
        · exact .inl (by rw [e]; omega)
      · exact .inr (List.mem_cons_of_mem _ e)
theorem foldl_min_le : ∀ (r : List Int) (n : Int), r.foldl min n ≤ n ∧ (∀ y ∈ r, r.foldl min n ≤ y) ∧ (r.foldl min n = n ∨ r.foldl min n ∈ r)
  | [], n => ⟨Int.le_refl _, fun y h => (by cases h), .inl rfl⟩
  | m :: r, n => by
    obtain ⟨h1, h2, h3⟩ := foldl_min_le r (min n m)
    refine ⟨by show r.foldl min (min n m) ≤ n; omega, fun y hy => ?_, ?_⟩
    · show r.foldl min (min n m) ≤ y
      rcases List.mem_cons.mp hy with e | e
      · omega
      · exact h2 y e
    · show r.foldl min (min n m) = n ∨ r.foldl min (min n m) ∈ m :: r
      rcases h3 with e | e
      · by_cases hm : m ≤ n
        · exact .inr (by rw [e, show min n m = m by omega]; exact List.mem_cons_self)
        · exact .inl (by rw [e]; omega)
      · exact .inr (List.mem_cons_of_mem _ e)
theorem maxL_is {ns : List Int} {m : Int} (h1 : m ∈ ns) (h2 : ∀ y ∈ ns, y ≤ m) : m = maxL ns := by
  cases ns with
  | nil => cases h1
  | cons n r =>
    obtain ⟨q1, q2, q3⟩ := foldl_max_le r n
    have a1 : m ≤ r.foldl max n := by
      rcases List.mem_cons.mp h1 with e | e
      · omega
      · exact q2 m e
    have a2 : r.foldl max n ≤ m := by
      rcases q3 with e | e
      · rw [e]; exact h2 n List.mem_cons_self
      · exact h2 _ (List.mem_cons_of_mem _ e)
    show m = r.foldl max n
    omega
theorem minL_is {ns : List Int} {m : Int} (h1 : m ∈ ns) (h2 : ∀ y ∈ ns, m ≤ y) : m = minL ns := by
  cases ns with
  | nil => cases h1
  | cons n r =>
    obtain ⟨q1, q2, q3⟩ := foldl_min_le r n
    have a1 : r.foldl min n ≤ m := by
      rcases List.mem_cons.mp h1 with e | e
      · omega
      · exact q2 m e
    have a2 : m ≤ r.foldl min n := by
      rcases q3 with e | e
      · rw [e]; exact h2 n List.mem_cons_self
      · exact h2 _ (List.mem_cons_of_mem _ e)
    show m = r.foldl min n
    omega
def dSum : D → R
  | .lst ds => match ints? ds with
    | some ns => .ok (.int ns.sum)
    | none => .bad
  | _ => .bad
def dMax : D → R
  | .lst ds => match ints? ds with
    | some (n :: r) => .ok (.int (maxL (n :: r)))
    | _ => .bad
  | _ => .bad
def dMin : D → R
  | .lst ds => match ints? ds with
    | some (n :: r) => .ok (.int (minL (n :: r)))
    | _ => .bad
  | _ => .bad
theorem calm_sum : Calm1 dSum := ⟨fun x c ns ds h => (by unfold dSum at h; split at h <;> first | cases h | (split at h <;> cases h)), fun d h => by cases d <;> first | rfl | cases h⟩
theorem calm_max : Calm1 dMax := ⟨fun x c ns ds h => (by unfold dMax at h; split at h <;> first | cases h | (split at h <;> cases h)), fun d h => by cases d <;> first | rfl | cases h⟩
theorem calm_min : Calm1 dMin := ⟨fun x c ns ds h => (by unfold dMin at h; split at h <;> first | cases h | (split at h <;> cases h)), fun d h => by cases d <;> first | rfl | cases h⟩
theorem l_sum : LookS X.K (rSum X.K) dSum := by
  intro F H v d d' Q s k e h
  unfold dSum at e
  split at e
  · split at e
    · rename_i hn
      cases e
      have := ints?_ok hn
      subst this
      cases k with
      | lst h1 h2 =>
        have := h2.ints
        subst this
        exact ⟨_, _, rfl, h1, h _ F H (.refl s) (.int _)⟩
    · cases e
  · cases e
theorem l_max : LookS X.K (rMax X.K) dMax := by
  intro F H v d d' Q s k e h
  unfold dMax at e
  split at e
  · split at e
    · rename_i hn
      cases e
      have := ints?_ok hn
      subst this
      cases k with
      | lst h1 h2 =>
        have := h2.ints
        subst this
        refine ⟨_, _, rfl, h1, Nat.succ_pos _, fun m q1 q2 => ?_⟩
        rw [maxL_is q1 q2]
        exact h _ F H (.refl s) (.int _)
    · cases e
  · cases e
theorem l_min : LookS X.K (rMin X.K) dMin := by
  intro F H v d d' Q s k e h
  unfold dMin at e
  split at e
  · split at e
    · rename_i hn
      cases e
      have := ints?_ok hn
      subst this
      cases k with
      | lst h1 h2 =>
        have := h2.ints
        subst this
        refine ⟨_, _, rfl, h1, Nat.succ_pos _, fun m q1 q2 => ?_⟩
        rw [minL_is q1 q2]
        exact h _ F H (.refl s) (.int _)
    · cases e
  · cases e
section
variable (hg : True)
theorem c_sum (hc : X.calm = true) (hm : X.mg "sum" = none) (ha : PE X e (cB X.K X.mg W o l m)) (hg : Gl X "sum" := by rfl) (he : starEach (e :: []) X.env = (false, eval e X.env) :: starEach [] X.env := by rfl) (hpl : (backTo pos (starEach [] X.env)).any (·.1) = false := by rfl) :
    PE X (.Call (.Name "sum" p) [e] [] pos) (cE X.K X.mg W o l (e1 dSum m)) := c_lookB (cr_sum hc) l_sum calm_sum hm (by decide +kernel) ha hg (by decide) (by decide) he hpl
theorem c_max (hc : X.calm = true) (hm : X.mg "max" = none) (ha : PE X e (cB X.K X.mg W o l m)) (hg : Gl X "max" := by rfl) (he : starEach (e :: []) X.env = (false, eval e X.env) :: starEach [] X.env := by rfl) (hpl : (backTo pos (starEach [] X.env)).any (·.1) = false := by rfl) :
    PE X (.Call (.Name "max" p) [e] [] pos) (cE X.K X.mg W o l (e1 dMax m)) := c_lookB (cr_max hc) l_max calm_max hm (by decide +kernel) ha hg (by decide) (by decide) he hpl
theorem c_min (hc : X.calm = true) (hm : X.mg "min" = none) (ha : PE X e (cB X.K X.mg W o l m)) (hg : Gl X "min" := by rfl) (he : starEach (e :: []) X.env = (false, eval e X.env) :: starEach [] X.env := by rfl) (hpl : (backTo pos (starEach [] X.env)).any (·.1) = false := by rfl) :
    PE X (.Call (.Name "min" p) [e] [] pos) (cE X.K X.mg W o l (e1 dMin m)) := c_lookB (cr_min hc) l_min calm_min hm (by decide +kernel) ha hg (by decide) (by decide) he hpl
theorem c_int1 (hm : X.mg "int" = none) (ha : PA X [e] (cA X.K X.mg W o l ms)) (hg : Gl X "int" := by rfl) (he : starEach (e :: []) X.env = (false, eval e X.env) :: starEach [] X.env := by rfl) (hpl : (backTo pos (starEach [] X.env)).any (·.1) = false := by rfl) :
    PE X (.Call (.Name "int" p) [e] [] pos) (cE X.K X.mg W o l (eCall dInt ms)) := c_callTy call_int1 s_int calm_int hm (by decide +kernel) ha hg (by decide) (by decide) he hpl
theorem c_max2 (hc : X.calm = true) (hm : X.mg "max" = none) (ha : PA X [a, b] (cA X.K X.mg W o l ms)) (hg : Gl X "max" := by rfl) (he : starEach (a :: [b]) X.env = (false, eval a X.env) :: starEach [b] X.env := by rfl) (hpl : (backTo pos (starEach [b] X.env)).any (·.1) = false := by rfl) :
    PE X (.Call (.Name "max" p) [a, b] [] pos) (cE X.K X.mg W o l (eCall dMax2 ms)) := c_callB (call_max2 hc) s_max2 calm_max2 hm (by decide +kernel) ha hg (by decide) (by decide) he hpl
theorem c_min2 (hc : X.calm = true) (hm : X.mg "min" = none) (ha : PA X [a, b] (cA X.K X.mg W o l ms)) (hg : Gl X "min" := by rfl) (he : starEach (a :: [b]) X.env = (false, eval a X.env) :: starEach [b] X.env := by rfl) (hpl : (backTo pos (starEach [b] X.env)).any (·.1) = false := by rfl) :
    PE X (.Call (.Name "min" p) [a, b] [] pos) (cE X.K X.mg W o l (eCall dMin2 ms)) := c_callB (call_min2 hc) s_min2 calm_min2 hm (by decide +kernel) ha hg (by decide) (by decide) he hpl
end
/-! ### items -/
def dIx : D → D → R
  | .lst ds, .int i => match atI ds i with
    | some d => .ok d
    | none => .bad
  | .tup ds, .int i => match atI ds i with
    | some d => .ok d
    | none => .bad
  | .str x, .int i => if sizeOkN x.length then (match atI x.cps.toList i with
    | some c => .ok (.str ⟨#[c]⟩)
    | none => .bad) else .bad
  | _, _ => .bad
theorem Reps.at {K : PySem.W.Frag} {F : Hp} {vs : List V} {ds : List D} {i : Int} {d : D} (r : Reps K F vs ds) (h : atI ds i = some d) : ∃ v, atI vs i = some v ∧ Rep K F v d := by
  unfold atI at h ⊢
  rw [r.length]
  cases e : ixN ds.length i with
  | none => rw [e] at h; cases h
  | some j =>
    rw [e] at h
    exact r.get h
def eIx (ma mb : Sl → R) (ρ : Sl) : R := (ma ρ).bind fun x => if okB x then (mb ρ).bind fun y => dIx x y else .bad
theorem c_ix (ha : PE X a (cB X.K X.mg W o l ma)) (hb : PE X b (cE X.K X.mg W o l mb)) (hs : PlainIx b := by exact fun _ _ => rfl) : PE X (.Subscript a b pos) (cE X.K X.mg W o l (eIx ma mb)) := by
  refine PE.sub (pe_ix ix_seq ha hb hs) fun σ H Q hh => ?_
  obtain ⟨ρ, B, F, r, p⟩ := hh
  refine ⟨ρ, B, F, r, ?_⟩
  have key : ∀ d v F1 H1, ma ρ = .ok d → Ext F H F1 H1 → Look X.K F1 H1 v d → cE X.K X.mg W o l mb σ H1 fun y H2 => rIx X.K v y H2 Q := by
    intro d v F1 H1 ed x1 k
    unfold eIx at p
    rw [ed] at p
    have p : PostE X.K X.mg F H Q (fun c d H' => W c d σ H') (if okB d then (mb ρ).bind fun y => dIx d y else .bad) := p
    rw [if_pos (show okB d = true by cases k <;> rfl)] at p
    have r1 := r.ext x1
    refine cE.bind r1 (PostE.ext x1 p) fun d2 v2 F2 H2 x2 r2 q2 p2 => ?_
    have k2 := k.up x2
    cases k2 with
    | lst h1 h2 =>
      cases q2 with
      | int i =>
        unfold dIx at p2
        dsimp only at p2
        split at p2
        · rename_i hd
          obtain ⟨u, q3, q4⟩ := h2.at hd
          exact .inl ⟨_, _, _, u, rfl, rfl, h1, q3, p2 u F2 H2 (.refl x2.s) q4⟩
        · exact p2.elim
      | _ => exact p2.elim
    | tup h1 h2 =>
      cases q2 with
      | int i =>
        unfold dIx at p2
        dsimp only at p2
        split at p2
        · rename_i hd
          obtain ⟨u, q3, q4⟩ := h2.at hd
          exact .inr (.inl ⟨_, _, _, u, rfl, rfl, h1, q3, p2 u F2 H2 (.refl x2.s) q4⟩)
        · exact p2.elim
      | _ => exact p2.elim
    | dic h1 h2 h3 => cases q2 <;> exact p2.elim
    | str =>
      cases q2 with
      | int i =>
        unfold dIx at p2
        dsimp only at p2
        split at p2
        · rename_i hz
          split at p2
          · rename_i hd
            exact .inr (.inr ⟨_, _, _, rfl, rfl, sizeOkN_le hz, hd, p2 _ F2 H2 (.refl x2.s) (.str _)⟩)
          · exact p2.elim
        · exact p2.elim
      | _ => exact p2.elim
  have nob : ∀ d, ma ρ = .ok d → okB d = false → False := fun d ed hd => by
    unfold eIx at p
    rw [ed] at p
    have p : PostE X.K X.mg F H Q (fun c d H' => W c d σ H') (if okB d then (mb ρ).bind fun y => dIx d y else .bad) := p
    rw [hd, if_neg Bool.false_ne_true] at p
    exact p
  cases e : ma ρ with
  | ok d =>
    cases d with
    | lst ds => exact fun a xs F' H' x q1 q2 => key _ _ F' H' e x (.lst q1 q2)
    | tup ds => exact fun a xs F' H' x q1 q2 => key _ _ F' H' e x (.tup q1 q2)
    | dic ks ds => exact fun a xs F' H' x q1 q2 q3 => key _ _ F' H' e x (.dic q1 q2 q3)
    | str y => exact fun F' H' x => key _ _ F' H' e x .str
    | non => exact nob _ e rfl
    | bl b => exact nob _ e rfl
    | int b => exact nob _ e rfl
    | obj c ns vs => exact nob _ e rfl
  | exc c ns ds => unfold eIx at p; rw [e] at p; exact p
  | bad => unfold eIx at p; rw [e] at p; exact p
end
end L2.Pd

/-! Rules for expressions: slices, isinstance, in, dicts. -/
namespace L2.Pd
open PySem PySem.Spec PyProof.Rows
section
variable {X : Cx} {W : WX} {o l : List Nat} {e a b c : Expr} {es : List Expr} {m ma mb mc : Sl → R} {ms : Sl → Rs (List D)} {pos p apos : Pos}

/-! ### slices -/
def pNone (_ : Sl) : Rs (Option Int) := .ok none
def pSome (m : Sl → R) (ρ : Sl) : Rs (Option Int) := (m ρ).bind fun d => match d with
  | .int i => .ok (some i)
  | _ => .bad
def PostO (K : PySem.W.Frag) (mg : Str → Option Value) (F H : Hp) (Q : Option Int → Hp → Prop) (W : XW) : Rs (Option Int) → Prop
  | .ok b => ∀ F' H', Ext F H F' H' → Q b H'
  | .exc c ns ds => ∀ cls dd F' H', Ext F H F' H' → XOk K mg c ns ds cls dd F' H' → W cls dd H'
  | .bad => False
def cO (K : PySem.W.Frag) (mg : Str → Option Value) (W : WX) (o l : List Nat) (m : Sl → Rs (Option Int)) : TO := fun σ H Q => ∃ ρ B F, Rl K o l ρ σ B F H ∧ PostO K mg F H Q (fun c d H' => W c d σ H') (m ρ)
theorem PO.sub {e : Option Expr} {t u : TO} (h : PO X e t) (k : ∀ σ H Q, u σ H Q → t σ H Q) : PO X e u := ⟨fun pins s σ H Q I q => h.run pins s σ H Q I (k σ H Q q)⟩
theorem p_none : PO X none (cO X.K X.mg W o l pNone) := PO.sub po_none fun σ H Q hh => by
  obtain ⟨ρ, B, F, r, p⟩ := hh
  exact p F H (.refl r.fh)
theorem p_some (h : PE X e (cE X.K X.mg W o l m)) : PO X (some e) (cO X.K X.mg W o l (pSome m)) := PO.sub (po_some h) fun σ H Q hh => by
  obtain ⟨ρ, B, F, r, p⟩ := hh
  refine ⟨ρ, B, F, r, ?_⟩
  unfold pSome at p
  cases er : m ρ with
  | ok d =>
    rw [er] at p
    intro v F' H' x q
    cases q with
    | int i => exact ⟨i, rfl, p F' H' x⟩
    | _ => exact p.elim
  | exc c ns ds => rw [er] at p; exact p
  | bad => rw [er] at p; exact p
def cutD (xs : List D) (lo hi : Option Int) : List D := (xs.drop (HT.sIx xs.length 0 lo)).take (HT.sIx xs.length xs.length hi - HT.sIx xs.length 0 lo)
theorem Reps.cut {K : PySem.W.Frag} {F : Hp} {vs : List V} {ds : List D} (r : Reps K F vs ds) (lo hi : Option Int) : Reps K F (cutV vs lo hi) (cutD ds lo hi) := by
  unfold cutV cutD
  rw [r.length]
  exact (r.drop _).take _
def dSl (d : D) (lo hi : Option Int) : R := match d with
  | .lst ds => .ok (.lst (cutD ds lo hi))
  | .tup ds => if HT.sIx ds.length 0 lo = 0 ∧ HT.sIx ds.length ds.length hi = ds.length then .bad else .ok (.tup (cutD ds lo hi))
  | .str x => if sizeOkN x.length then .ok (.str (cutS x lo hi)) else .bad
  | _ => .bad
def eSl (m : Sl → R) (ml mh : Sl → Rs (Option Int)) (ρ : Sl) : R := (m ρ).bind fun x => if okB x then (ml ρ).bind fun lo => (mh ρ).bind fun hi => dSl x lo hi else .bad
theorem cO.bind {K : PySem.W.Frag} {mg : Str → Option Value} {m : Sl → Rs (Option Int)} {σ : St} {H : Hp} {ρ : Sl} {B : Bs} {F : Hp} {k : Option Int → R} {Q : VK} {Q' : Option Int → Hp → Prop}
    (r : Rl K o l ρ σ B F H) (p : PostE K mg F H Q (fun c d H' => W c d σ H') ((m ρ).bind k))
    (h : ∀ d F' H', Ext F H F' H' → Rl K o l ρ σ B F' H' → PostE K mg F' H' Q (fun c d H' => W c d σ H') (k d) → Q' d H') : cO K mg W o l m σ H Q' := by
  refine ⟨ρ, B, F, r, ?_⟩
  cases e : m ρ with
  | ok d =>
    rw [e] at p
    exact fun F' H' x => h d F' H' x (r.ext x) (PostE.ext x p)
  | exc c ns ds => rw [e] at p; exact p
  | bad => rw [e] at p; exact p
theorem c_slice {lo hi : Option Expr} {ml mh : Sl → Rs (Option Int)} {p2 : Pos} (ha : PE X e (cB X.K X.mg W o l m)) (hl : PO X lo (cO X.K X.mg W o l ml)) (hu : PO X hi (cO X.K X.mg W o l mh)) : PE X (.Subscript e (.Slice lo hi none p2) pos) (cE X.K X.mg W o l (eSl m ml mh)) := by
  refine PE.sub (pe_slice (SlR.or sl_list (SlR.or sl_tup sl_str)) ha hl hu) fun σ H Q hh => ?_
  obtain ⟨ρ, B, F, r, q⟩ := hh
  refine cB.bind (k := fun x => if okB x then (ml ρ).bind fun lo => (mh ρ).bind fun hi => dSl x lo hi else .bad) r (fun d hd => by rw [hd]; rfl) q fun d v F1 H1 x1 r1 k1 q1 => ?_
  rw [if_pos (show okB d = true by cases k1 <;> rfl)] at q1
  refine cO.bind r1 q1 fun lo' F2 H2 x2 r2 q2 => ?_
  refine cO.bind r2 q2 fun hi' F3 H3 x3 r3 q3 => ?_
  have k3 := (k1.up x2).up x3
  cases k3 with
  | lst h1 h2 => exact .inl ⟨_, _, rfl, h1, fun t ht => q3 _ _ _ (.new x3.s ht) (.lst (.inl (.inl upd_same)) ((h2.cut lo' hi').up (Ext.new x3.s ht).f))⟩
  | tup h1 h2 =>
    unfold dSl at q3
    dsimp only at q3
    split at q3
    · exact q3.elim
    · rename_i hz
      rw [← h2.length] at hz
      exact .inr (.inl ⟨_, _, rfl, h1, hz, fun t ht => q3 _ _ _ (.new x3.s ht) (.tup (.inl (.inl upd_same)) ((h2.cut lo' hi').up (Ext.new x3.s ht).f))⟩)
  | dic h1 h2 h3 => exact q3.elim
  | str =>
    unfold dSl at q3
    dsimp only at q3
    split at q3
    · rename_i hz
      exact .inr (.inr ⟨_, rfl, sizeOkN_le hz, q3 _ F3 H3 (.refl x3.s) (.str _)⟩)
    · exact q3.elim

/-! ### isinstance with a built-in class -/
def tyN : D → Option String
  | .non => some "NoneType"
  | .bl _ => some "bool"
  | .int _ => some "int"
  | .str _ => some "str"
  | .lst _ => some "list"
  | .tup _ => some "tuple"
  | .dic _ _ => some "dict"
  | .obj _ _ _ => none
def isTy (t T : String) : Bool := t == T || (t == "bool" && T == "int")
def tyKnown (T : String) : Bool := T == "int" || T == "bool" || T == "list" || T == "tuple" || T == "str" || T == "dict"
theorem kitB_is {t T : String} {d : D} (h : tyN d = some t) (hT : tyKnown T = true) : kitB t T = some (isTy t T) := by
  unfold tyKnown at hT
  simp only [Bool.or_eq_true, beq_iff_eq] at hT
  rcases hT with ((((rfl | rfl) | rfl) | rfl) | rfl) | rfl <;> cases d <;> cases h <;> decide +kernel
def dIs (T : String) (d : D) : R := match tyN d with
  | some t => .ok (.bl (isTy t T))
  | none => .bad
theorem Rep.ty {K : PySem.W.Frag} {F H : Hp} {v : V} {d : D} {t : String} (s : Same F H) (r : Rep K F v d) (h : tyN d = some t) : TyX K H v (.type t) := by
  cases r with
  | non => cases h; exact .base .non
  | bl b => cases h; exact .base (.bl b)
  | int b => cases h; exact .base (.int b)
  | str b => cases h; exact .base (.str b)
  | lst h1 h2 =>
    cases h
    rcases s.seq h1 with (q | ⟨ob, q⟩) | ⟨ob, _, _, q1, q2, _⟩
    · exact .base (.lst q)
    · exact .base (.frz q)
    · exact .kList q1 q2
  | tup h1 h2 =>
    cases h
    rcases Same.sqt s h1 with (q | ⟨ob, q⟩) | ⟨ob, _, _, q1, q2, _⟩
    · exact .base (.tup q)
    · exact .fTuple q
    · exact .kTuple q1 q2
  | dic h1 h2 h3 => cases h; exact .base (.dK (s _ _ h1))
theorem c_isi {T : Str} {Ty : String} {p2 : Pos} (hT : tyKnown Ty = true) (hm : X.mg "isinstance" = none) (hmT : X.mg T = none) (hvT : bootBuiltins T = some (.type Ty)) (ha : PE X e (cE X.K X.mg W o l m)) (hg : Gl X "isinstance" := by rfl) (hgT : Gl X T := by rfl)
    (hnT : T ≠ "__name__" := by decide) (hdT : (T == ("__debug__" : Str)) = false := by decide)
    (he : starEach (e :: [.Name T p2]) X.env = (false, eval e X.env) :: starEach [.Name T p2] X.env := by rfl) (he2 : starEach (.Name T p2 :: []) X.env = (false, eval (.Name T p2) X.env) :: starEach [] X.env := by rfl) (hpl : (backTo pos (starEach [.Name T p2] X.env)).any (·.1) = false := by rfl) :
    PE X (.Call (.Name "isinstance" p) [e, .Name T p2] [] pos) (cE X.K X.mg W o l (e1 (dIs Ty) m)) := by
  have hT2 : PE X (.Name T p2) (tC (.ty Ty)) := pe_bltn hgT hmT hvT rfl hnT hdT
  refine PE.sub (pe_callB call_isi hg hm (by decide +kernel) (pa_cons ha (pa_cons hT2 pa_nil he2) he) (by decide) (by decide) he hpl) fun σ H Q hh => ?_
  obtain ⟨ρ, B, F, r, q⟩ := hh
  refine cE.bind r q fun d v F1 H1 x1 r1 k1 q1 => ?_
  unfold dIs at q1
  split at q1
  · rename_i t ht
    exact ⟨v, .ty Ty, .type t, .type Ty, _, rfl, .ty Ty, k1.ty x1.s ht, kit_ty (kitB_is ht hT), q1 _ F1 H1 (.refl x1.s) (.bl _)⟩
  · exact q1.elim

/-! ### in -/
def dLook : List Int → List D → Int → Option D
  | k :: ks, v :: vs, n => if k = n then some v else dLook ks vs n
  | _, _, _ => none
def putDs : List Int → List D → Int → D → List D
  | k :: ks, v :: vs, n, d => (if k = n then d else v) :: putDs ks vs n d
  | _, _, _, _ => []
def dPut (ks : List Int) (vs : List D) (n : Int) (d : D) : D := if n ∈ ks then .dic ks (putDs ks vs n d) else .dic (ks ++ [n]) (vs ++ [d])
theorem look_val {K : PySem.W.Frag} {F : Hp} {n : Int} : ∀ {kvs : List (Key × V)} {ks : List Int} {ds : List D}, kvs.map (·.1) = ks.map Sum.inl → Reps K F (kvs.map (·.2)) ds →
    match dLook ks ds n with
    | some d => ∃ v, valV kvs (Sum.inl n) = some v ∧ Rep K F v d
    | none => valV kvs (Sum.inl n) = none
  | [], [], ds, _, h => by cases h; exact rfl
  | [], k :: ks, ds, e, _ => by cases e
  | p :: kvs, [], ds, e, _ => by cases e
  | (k', v) :: kvs, k :: ks, [], e, h => by cases h
  | (k', v) :: kvs, k :: ks, d :: ds, e, h => by
    simp only [List.map_cons, List.cons.injEq] at e
    obtain ⟨e1, e2⟩ := e
    cases h with
    | cons h1 h2 =>
      have ih := look_val (n := n) e2 h2
      unfold dLook
      by_cases hk : k = n
      · rw [if_pos hk]
        exact ⟨v, valV_pos (p := (k', v)) (by show k' = _; rw [e1, hk]), h1⟩
      · rw [if_neg hk]
        have hne : ¬ k' = Sum.inl n := by rw [e1]; intro z; exact hk (Sum.inl.inj z)
        rw [valV_neg (p := (k', v)) hne]
        exact ih
theorem look_none {n : Int} : ∀ {ks : List Int} {ds : List D}, ks.length = ds.length → (dLook ks ds n = none ↔ n ∉ ks)
  | [], [], _ => by simp [dLook]
  | [], _ :: _, h => by cases h
  | _ :: _, [], h => by cases h
  | k :: ks, d :: ds, h => by
    unfold dLook
    by_cases hk : k = n
    · rw [if_pos hk]; simp [hk]
    · rw [if_neg hk, look_none (ks := ks) (ds := ds) (by simpa using h)]
      simp [Ne.symm hk, hk]
theorem put_ok {K : PySem.W.Frag} {F : Hp} {n : Int} {v : V} {d : D} {kvs : List (Key × V)} {ks : List Int} {ds : List D} (e : kvs.map (·.1) = ks.map Sum.inl) (r : Reps K F (kvs.map (·.2)) ds) (rv : Rep K F v d) :
    ∃ ks' ds', dPut ks ds n d = .dic ks' ds' ∧ (putK kvs (Sum.inl n) v).map (·.1) = ks'.map Sum.inl ∧ Reps K F ((putK kvs (Sum.inl n) v).map (·.2)) ds' := by
  have hl : ks.length = ds.length := by
    have h1 := congrArg List.length e
    have h2 := r.length
    simp only [List.length_map] at h1 h2
    omega
  unfold dPut
  have lk := look_val (n := n) e r
  by_cases hn : n ∈ ks
  · rw [if_pos hn]
    refine ⟨ks, _, rfl, ?_⟩
    have hs : (kvs.any fun kv => decide (kv.1 = (Sum.inl n : Key))) = true := by
      rw [valV_any]
      cases hd : dLook ks ds n with
      | none => exact absurd hn ((look_none hl).mp hd)
      | some d0 =>
        rw [hd] at lk
        obtain ⟨v0, h0, _⟩ := lk
        rw [h0]
        rfl
    unfold putK
    rw [if_pos hs]
    clear hs hn lk hl
    revert ks ds
    induction kvs with
    | nil =>
      intro ks ds e r
      cases ks with
      | nil => cases r; exact ⟨rfl, .nil⟩
      | cons k ks => cases e
    | cons p kvs ih =>
      obtain ⟨k', v0⟩ := p
      intro ks ds e r
      cases ks with
      | nil => cases e
      | cons k ks =>
        simp only [List.map_cons, List.cons.injEq] at e
        obtain ⟨e1, e2⟩ := e
        cases r with
        | cons h1 h2 =>
          obtain ⟨q1, q2⟩ := ih e2 h2
          subst e1
          by_cases hk : k = n
          · subst hk
            simp only [List.map_cons, if_true, putDs]
            exact ⟨congrArg (Sum.inl k :: ·) q1, .cons rv q2⟩
          · have hne : ¬ ((Sum.inl k : Key) = Sum.inl n) := fun z => hk (Sum.inl.inj z)
            simp only [List.map_cons, if_neg hne, if_neg hk, putDs]
            exact ⟨congrArg (Sum.inl k :: ·) q1, .cons h1 q2⟩
  · rw [if_neg hn]
    refine ⟨_, _, rfl, ?_⟩
    rw [(look_none hl).mpr hn] at lk
    rw [putK_new v lk]
    refine ⟨by simp [e], ?_⟩
    rw [List.map_append]
    exact Reps.append r (.cons rv .nil)

def flatD : D → Bool
  | .non => true | .bl _ => true | .int _ => true | .str _ => true | _ => false
theorem flat_rep {K : PySem.W.Frag} {F : Hp} {v : V} {d : D} (r : Rep K F v d) : flatV v = flatD d := by cases r <;> rfl
theorem flat_reps {K : PySem.W.Frag} {F : Hp} : ∀ {vs : List V} {ds : List D}, Reps K F vs ds → vs.all flatV = ds.all flatD
  | _, [], h => by cases h; rfl
  | _, d :: ds, h => by
    cases h with
    | cons h1 h2 => rw [List.all_cons, List.all_cons, flat_rep h1, flat_reps h2]
/-- == of flat data -/
def eqF : D → D → Bool
  | .non, .non => true
  | .bl a, .bl b => a == b
  | .bl a, .int b => (if a then 1 else 0) == b
  | .int a, .bl b => a == (if b then 1 else 0)
  | .int a, .int b => a == b
  | .str a, .str b => a == b
  | _, _ => false
theorem eqF_rep {K : PySem.W.Frag} {F : Hp} {v w : V} {d e : D} (r : Rep K F v d) (r' : Rep K F w e) (h : flatD d = true) (h' : flatD e = true) : eqV v w = eqF d e := by
  cases r <;> cases r' <;> first | rfl | cases h | cases h'
theorem inF_reps {K : PySem.W.Frag} {F : Hp} {v : V} {d : D} (r : Rep K F v d) (h : flatD d = true) : ∀ {vs : List V} {ds : List D}, Reps K F vs ds → ds.all flatD = true → inV v vs = ds.any fun z => eqF z d
  | _, [], q, _ => by cases q; rfl
  | _, e :: ds, q, hf => by
    rw [List.all_cons, Bool.and_eq_true] at hf
    cases q with
    | cons q1 q2 =>
      show (eqV _ v || inV v _) = _
      rw [List.any_cons, eqF_rep q1 r hf.1 h, inF_reps r h q2 hf.2]
def dIn (neg : Bool) (x : D) : D → R
  | .lst ds => if flatD x && ds.all flatD then .ok (.bl (neg.xor (ds.any fun z => eqF z x)))
      else if x.sh && (D.lst ds).sh then .ok (.bl (neg.xor (ds.any fun z => z.eqv x))) else .bad
  | .tup ds => if flatD x && ds.all flatD then .ok (.bl (neg.xor (ds.any fun z => eqF z x))) else .bad
  | .dic ks ds => match x with
    | .int n => .ok (.bl (neg.xor (dLook ks ds n).isSome))
    | _ => .bad
  | .str y => match x with
    | .str z => match z.cps.toList with
      | [c] => .ok (.bl (neg.xor (decide (c ∈ y.cps.toList))))
      | _ => .bad
    | _ => .bad
  | _ => .bad


theorem calm_in {neg : Bool} {x y : D} {c ns ds} : dIn neg x y ≠ .exc c ns ds := fun h => by
  unfold dIn at h
  split at h
  · split at h
    · cases h
    · split at h <;> cases h
  · split at h <;> cases h
  · split at h <;> cases h
  · split at h
    · split at h <;> cases h
    · cases h
  · cases h
def eIn (neg : Bool) (ma mb : Sl → R) (ρ : Sl) : R := (ma ρ).bind fun x => (mb ρ).bind fun y => dIn neg x y
theorem look_dp {K : PySem.W.Frag} {F H : Hp} {v : V} {ds : List D} (s : Same F H) (k : Look K F H v (.lst ds)) (c : (D.lst ds).py.canLay0 = true) : Dp K H v (.list (D.pys ds)) := by
  cases k with
  | lst h1 h2 => exact .lst h1 (Reps.dp s ds h2 (by simpa only [D.py, PyData.canLay0] using c))
theorem any_pys (x : PyData) : ∀ ds : List D, ((D.pys ds).any fun z => PyData.eqv z x) = ds.any fun z => PyData.eqv z.py x
  | [] => rfl
  | d :: ds => by
    simp only [D.pys, List.any_cons, any_pys x ds]
/-- in, not in of lists, tuples, texts -/
theorem in_op {neg : Bool} {F H : Hp} {v w : V} {x y d : D} {Q : VK} (s : Same F H) (rx : Rep X.K F v x) (k : Look X.K F H w y) (e : dIn neg x y = .ok d) (hd : ∀ ks vs, y ≠ .dic ks vs) (h : ∀ v F' H', Ext F H F' H' → Rep X.K F' v d → Q v H') :
    ((∃ d ds, Dp X.K H v d ∧ Dp X.K H w (.list ds) ∧ SeqAt.shaped d = true ∧ SeqAt.shaped (.list ds) = true ∧ Q (.bl (neg.xor (ds.any fun z => PyData.eqv z d))) H) ∨
     (∃ p xs, w = .ref p ∧ (SqL X.K H p xs ∨ SqT X.K H p xs) ∧ flatV v = true ∧ xs.all flatV = true ∧ Q (.bl (neg.xor (inV v xs))) H) ∨
     (∃ c z, v = .str ⟨#[c]⟩ ∧ w = .str z ∧ Q (.bl (neg.xor (decide (c ∈ z.cps.toList)))) H)) := by
  unfold dIn at e
  split at e
  · split at e
    · rename_i hz
      rw [Bool.and_eq_true] at hz
      cases e
      cases k with
      | lst h1 h2 =>
        refine .inr (.inl ⟨_, _, rfl, .inl h1, by rw [flat_rep rx]; exact hz.1, by rw [flat_reps h2]; exact hz.2, ?_⟩)
        rw [inF_reps rx hz.1 h2 hz.2]
        exact h _ F H (.refl s) (.bl _)
    · split at e
      · rename_i hz
        rw [Bool.and_eq_true] at hz
        cases e
        refine .inl ⟨_, _, rx.dp s _ (SeqAt.canLay_of_shaped hz.1), look_dp s k (SeqAt.canLay_of_shaped hz.2), hz.1, hz.2, ?_⟩
        rw [any_pys]
        exact h _ F H (.refl s) (.bl _)
      · cases e
  · split at e
    · rename_i hz
      rw [Bool.and_eq_true] at hz
      cases e
      cases k with
      | tup h1 h2 =>
        refine .inr (.inl ⟨_, _, rfl, .inr h1, by rw [flat_rep rx]; exact hz.1, by rw [flat_reps h2]; exact hz.2, ?_⟩)
        rw [inF_reps rx hz.1 h2 hz.2]
        exact h _ F H (.refl s) (.bl _)
    · cases e
  · exact absurd rfl (hd _ _)
  · split at e
    · split at e
      · rename_i z _ c hc
        cases e
        cases rx
        cases k with
        | str =>
          refine .inr (.inr ⟨c, _, ?_, rfl, h _ F H (.refl s) (.bl _)⟩)
          obtain ⟨⟨l⟩⟩ := z
          simp only at hc
          rw [hc]
      · cases e
    · cases e
  · cases e
theorem in_dic {neg : Bool} {F H : Hp} {v w : V} {x d : D} {ks : List Int} {vs : List D} {Q : VK} (s : Same F H) (rx : Rep X.K F v x) (k : Look X.K F H w (.dic ks vs)) (e : dIn neg x (.dic ks vs) = .ok d) (h : ∀ v F' H', Ext F H F' H' → Rep X.K F' v d → Q v H') :
    ∃ a o, w = .ref a ∧ DGet H a v o ∧ Q (.bl (neg.xor o.isSome)) H := by
  unfold dIn at e
  dsimp only at e
  split at e
  · rename_i n
    cases e
    cases rx
    cases k with
    | dic h1 h2 h3 =>
      refine ⟨_, _, rfl, DGet.k (k := Sum.inl n) h1, ?_⟩
      have lk := look_val (n := n) h2 h3
      rename_i kvs
      have : (valV kvs (Sum.inl n : Key)).isSome = (dLook ks vs n).isSome := by
        cases hd : dLook ks vs n with
        | none => rw [hd] at lk; rw [lk]; rfl
        | some d0 => rw [hd] at lk; obtain ⟨v0, h0, _⟩ := lk; rw [h0]; rfl
      rw [this]
      exact h _ F H (.refl s) (.bl _)
  · cases e
theorem PE.or {e : Expr} {t u : TE} (h : PE X e t) (h' : PE X e u) : PE X e (fun σ H Q => t σ H Q ∨ u σ H Q) := ⟨fun pins s σ H Q I q => q.elim (h.run pins s σ H Q I) (h'.run pins s σ H Q I)⟩
theorem PT.or {e : Expr} {t u : TT} (h : PT X e t) (h' : PT X e u) : PT X e (fun σ H Q => t σ H Q ∨ u σ H Q) := ⟨fun pins s σ H Q I q => q.elim (h.run pins s σ H Q I) (h'.run pins s σ H Q I)⟩
def rInAll (K : PySem.W.Frag) (neg : Bool) : R2 := fun v w H Q => (∃ d ds, Dp K H v d ∧ Dp K H w (.list ds) ∧ SeqAt.shaped d = true ∧ SeqAt.shaped (.list ds) = true ∧ Q (.bl (neg.xor (ds.any fun z => PyData.eqv z d))) H) ∨
     (∃ p xs, w = .ref p ∧ (SqL K H p xs ∨ SqT K H p xs) ∧ flatV v = true ∧ xs.all flatV = true ∧ Q (.bl (neg.xor (inV v xs))) H) ∨
     (∃ c z, v = .str ⟨#[c]⟩ ∧ w = .str z ∧ Q (.bl (neg.xor (decide (c ∈ z.cps.toList)))) H)
def rDic (neg : Bool) : R2 := fun v w H Q => ∃ a o, w = .ref a ∧ DGet H a v o ∧ Q (.bl (neg.xor o.isSome)) H
theorem op_inAll (hu : X.A.units + 65 < cLine) : OpR X (compareOp .In) (rInAll X.K false) := by
  refine fun pins s σ H x y v u Q I rx ry h => ?_
  rcases h with ⟨d, ds, h1, h2, h3, h4, h5⟩ | ⟨p, xs, h1, h2, h3, h4, h5⟩ | ⟨c, z, h1, h2, h3⟩
  · rw [Bool.false_xor] at h5
    exact op_inD hu pins s σ H x y v u Q I rx ry ⟨d, ds, h1, h2, h3, h4, h5⟩
  · rw [Bool.false_xor] at h5
    exact op_in_seq pins s σ H x y v u Q I rx ry ⟨p, xs, h1, h2, h3, h4, h5⟩
  · rw [Bool.false_xor] at h3
    exact op_in_sign pins s σ H x y v u Q I rx ry ⟨c, z, h1, h2, h3⟩
theorem op_notInAll (hu : X.A.units + 65 < cLine) : OpR X (compareOp .NotIn) (rInAll X.K true) := by
  refine fun pins s σ H x y v u Q I rx ry h => ?_
  rcases h with ⟨d, ds, h1, h2, h3, h4, h5⟩ | ⟨p, xs, h1, h2, h3, h4, h5⟩ | ⟨c, z, h1, h2, h3⟩
  · rw [Bool.true_xor] at h5
    exact op_notInD hu pins s σ H x y v u Q I rx ry ⟨d, ds, h1, h2, h3, h4, h5⟩
  · rw [Bool.true_xor] at h5
    exact op_notIn_seq pins s σ H x y v u Q I rx ry ⟨p, xs, h1, h2, h3, h4, h5⟩
  · rw [Bool.true_xor] at h3
    exact op_notIn_sign pins s σ H x y v u Q I rx ry ⟨c, z, h1, h2, h3⟩
theorem cB.bindE {m : Sl → R} {σ : St} {H : Hp} {ρ : Sl} {B : Bs} {F : Hp} {k : D → R} {Q Q' : VK}
    (r : Rl X.K o l ρ σ B F H) (hk : ∀ d, okB d = false → k d = .bad) (p : PostE X.K X.mg F H Q (fun c d H' => W c d σ H') ((m ρ).bind k))
    (h : ∀ d v F' H', m ρ = .ok d → Ext F H F' H' → Rl X.K o l ρ σ B F' H' → Look X.K F' H' v d → PostE X.K X.mg F' H' Q (fun c d H' => W c d σ H') (k d) → Q' v H') : cB X.K X.mg W o l m σ H Q' := by
  refine ⟨ρ, B, F, r, ?_⟩
  cases e : m ρ with
  | ok d =>
    rw [e] at p
    have p : PostE X.K X.mg F H Q (fun c d H' => W c d σ H') (k d) := p
    cases d with
    | lst ds => exact fun a xs F' H' x q1 q2 => h _ _ F' H' e x (r.ext x) (.lst q1 q2) (p.ext x)
    | tup ds => exact fun a xs F' H' x q1 q2 => h _ _ F' H' e x (r.ext x) (.tup q1 q2) (p.ext x)
    | dic ks ds => exact fun a xs F' H' x q1 q2 q3 => h _ _ F' H' e x (r.ext x) (.dic q1 q2 q3) (p.ext x)
    | str y => exact fun F' H' x => h _ _ F' H' e x (r.ext x) .str (p.ext x)
    | non => rw [hk _ rfl] at p; exact p
    | bl b => rw [hk _ rfl] at p; exact p
    | int b => rw [hk _ rfl] at p; exact p
    | obj c ns vs => rw [hk _ rfl] at p; exact p
  | exc c ns ds => rw [e] at p; exact p
  | bad => rw [e] at p; exact p
/-- the parts of an 'in' -/
theorem in_post {neg : Bool} {σ : St} {H : Hp} {Q : VK} (h : cE X.K X.mg W o l (eIn neg ma mb) σ H Q) :
    (cE X.K X.mg W o l ma σ H fun x H1 => cB X.K X.mg W o l mb σ H1 fun y H2 => rInAll X.K neg x y H2 Q) ∨ (cE X.K X.mg W o l ma σ H fun x H1 => cB X.K X.mg W o l mb σ H1 fun y H2 => rDic neg x y H2 Q) := by
  obtain ⟨ρ, B, F, r, p⟩ := h
  by_cases hd : ∃ ks vs, mb ρ = .ok (.dic ks vs)
  · obtain ⟨ks, vs, hd⟩ := hd
    refine .inr (cE.bind r p fun d v F1 H1 x1 r1 q1 p1 => cB.bindE (k := fun y => dIn neg d y) r1 (fun d hd => by cases d <;> first | rfl | cases hd) p1 fun y w F2 H2 ey x2 r2 k2 p2 => ?_)
    rw [hd] at ey
    cases ey
    cases ef : dIn neg d (.dic ks vs) with
    | ok z => rw [ef] at p2; exact in_dic x2.s (q1.up x2.f) k2 ef p2
    | exc c ns ds => exact absurd ef calm_in
    | bad => rw [ef] at p2; exact p2.elim
  · refine .inl (cE.bind r p fun d v F1 H1 x1 r1 q1 p1 => cB.bindE (k := fun y => dIn neg d y) r1 (fun d hd => by cases d <;> first | rfl | cases hd) p1 fun y w F2 H2 ey x2 r2 k2 p2 => ?_)
    cases ef : dIn neg d y with
    | ok z => rw [ef] at p2; exact in_op x2.s (q1.up x2.f) k2 ef (fun ks vs e => hd ⟨ks, vs, by rw [ey, e]⟩) p2
    | exc c ns ds => exact absurd ef calm_in
    | bad => rw [ef] at p2; exact p2.elim
theorem c_in (hu : X.A.units + 65 < cLine) (ha : PE X a (cE X.K X.mg W o l ma)) (hb : PE X b (cB X.K X.mg W o l mb)) (hm : behindInMarks .In b = false := by rfl) : PE X (.Compare a [.In] [b] pos) (cE X.K X.mg W o l (eIn false ma mb)) := by
  refine PE.sub (PE.or (pe_cmpR (op_inAll hu) ha hb hm) (pe_cmp (pc_din (by omega) ha hb) hm)) fun σ H Q h => ?_
  rcases in_post h with q | q
  · exact .inl q
  · refine .inr ?_
    obtain ⟨ρ, B, F, r, q⟩ := q
    refine ⟨ρ, B, F, r, ?_⟩
    have : ∀ y x H2, rDic false y x H2 Q → ∃ a o, x = V.ref a ∧ DGet H2 a y o ∧ Q (.bl o.isSome) H2 := fun y x H2 ⟨a, o, h1, h2, h3⟩ => ⟨a, o, h1, h2, by rw [Bool.false_xor] at h3; exact h3⟩
    have e : rDic false = fun y x H2 Q => ∃ a o, x = V.ref a ∧ DGet H2 a y o ∧ Q (.bl o.isSome) H2 := by
      funext y x H2 Q
      unfold rDic
      simp only [Bool.false_xor]
    rw [e] at q
    exact q
theorem c_notIn (hu : X.A.units + 65 < cLine) (ha : PE X a (cE X.K X.mg W o l ma)) (hb : PE X b (cB X.K X.mg W o l mb)) (hm : behindInMarks .NotIn b = false := by rfl) : PE X (.Compare a [.NotIn] [b] pos) (cE X.K X.mg W o l (eIn true ma mb)) := by
  refine PE.sub (PE.or (pe_cmpR (op_notInAll hu) ha hb hm) (pe_cmp (pc_dnotin (by omega) ha hb) hm)) fun σ H Q h => ?_
  rcases in_post h with q | q
  · exact .inl q
  · refine .inr ?_
    obtain ⟨ρ, B, F, r, q⟩ := q
    refine ⟨ρ, B, F, r, ?_⟩
    have e : rDic true = fun y x H2 Q => ∃ a o, x = V.ref a ∧ DGet H2 a y o ∧ Q (.bl (!o.isSome)) H2 := by
      funext y x H2 Q
      unfold rDic
      simp only [Bool.true_xor]
    rw [e] at q
    exact q
theorem tt_post {t : TE} {m : Sl → R} {σ : St} {H : Hp} {Q : Bool → Hp → Prop} (k : ∀ Q', cE X.K X.mg W o l m σ H Q' → t σ H Q') (h : cT X.K X.mg W o l (tt m) σ H Q) : t σ H fun x H' => ∃ c, x = .bl c ∧ Q c H' := by
  obtain ⟨ρ, B, F, r, p⟩ := h
  refine k _ ⟨ρ, B, F, r, ?_⟩
  unfold tt at p
  cases e : m ρ with
  | ok d =>
    rw [e] at p
    cases d with
    | bl b =>
      intro v F' H' x q
      cases q
      exact ⟨b, rfl, p F' H' x⟩
    | _ => exact p.elim
  | exc c ns ds => rw [e] at p; exact p
  | bad => rw [e] at p; exact p
theorem t_in (hu : X.A.units + 65 < cLine) (ha : PE X a (cE X.K X.mg W o l ma)) (hb : PE X b (cB X.K X.mg W o l mb)) (hm : behindInMarks .In b = false := by rfl) : PT X (.Compare a [.In] [b] pos) (cT X.K X.mg W o l (tt (eIn false ma mb))) := by
  refine PT.sub (PT.or (pt_cmpR (op_inAll hu) ha hb hm) (pt_cmp (pc_din (by omega) ha hb) hm)) fun σ H Q h => ?_
  refine tt_post (t := fun σ H Q => (tOp (rInAll X.K false) (cE X.K X.mg W o l ma) (cB X.K X.mg W o l mb) σ H Q) ∨ (tDIn (cE X.K X.mg W o l ma) (cB X.K X.mg W o l mb) σ H Q)) (fun Q' h' => ?_) h
  rcases in_post h' with q | q
  · exact .inl q
  · refine .inr ?_
    have e : rDic false = fun y x H2 Q => ∃ a o, x = V.ref a ∧ DGet H2 a y o ∧ Q (.bl o.isSome) H2 := by
      funext y x H2 Q
      unfold rDic
      simp only [Bool.false_xor]
    rw [e] at q
    exact q
theorem t_notIn (hu : X.A.units + 65 < cLine) (ha : PE X a (cE X.K X.mg W o l ma)) (hb : PE X b (cB X.K X.mg W o l mb)) (hm : behindInMarks .NotIn b = false := by rfl) : PT X (.Compare a [.NotIn] [b] pos) (cT X.K X.mg W o l (tt (eIn true ma mb))) := by
  refine PT.sub (PT.or (pt_cmpR (op_notInAll hu) ha hb hm) (pt_cmp (pc_dnotin (by omega) ha hb) hm)) fun σ H Q h => ?_
  refine tt_post (t := fun σ H Q => (tOp (rInAll X.K true) (cE X.K X.mg W o l ma) (cB X.K X.mg W o l mb) σ H Q) ∨ (tDNotIn (cE X.K X.mg W o l ma) (cB X.K X.mg W o l mb) σ H Q)) (fun Q' h' => ?_) h
  rcases in_post h' with q | q
  · exact .inl q
  · refine .inr ?_
    have e : rDic true = fun y x H2 Q => ∃ a o, x = V.ref a ∧ DGet H2 a y o ∧ Q (.bl (!o.isSome)) H2 := by
      funext y x H2 Q
      unfold rDic
      simp only [Bool.true_xor]
    rw [e] at q
    exact q

/-! ### dicts -/
def eGet (md mk mv : Sl → R) (ρ : Sl) : R := (md ρ).bind fun d => match d with
  | .dic ks vs => (mk ρ).bind fun k => (mv ρ).bind fun v => match k with
    | .int n => .ok ((dLook ks vs n).getD v)
    | _ => .bad
  | _ => .bad
theorem c_get {cpos : Pos} {f : Expr} (hu : X.A.units + 1 < cLine) (ha : PE X a (cB X.K X.mg W o l ma)) (hb : PE X b (cE X.K X.mg W o l mb)) (hc : PE X f (cE X.K X.mg W o l mc)) (mm : M2 X a "get" apos b f cpos) :
    PE X (.Call (.Attribute a "get" apos) [b, f] [] cpos) (cE X.K X.mg W o l (eGet ma mb mc)) := by
  refine PE.sub (pe_dget2 hu ha hb hc mm) fun σ H Q h => ?_
  obtain ⟨ρ, B, F, r, p⟩ := h
  refine cB.bind (k := fun d => match d with
  | .dic ks vs => (mb ρ).bind fun k => (mc ρ).bind fun v => match k with
    | .int n => .ok ((dLook ks vs n).getD v)
    | _ => .bad
  | _ => .bad) r (fun d hd => by cases d <;> first | rfl | cases hd) p fun d v F1 H1 x1 r1 k1 p1 => ?_
  cases k1 with
  | lst h1 h2 => exact p1.elim
  | tup h1 h2 => exact p1.elim
  | str => exact p1.elim
  | dic h1 h2 h3 =>
    rename_i aa kvs ks vs
    refine ⟨aa, rfl, .inl ⟨kvs, .inl h1⟩, ?_⟩
    refine cE.bind r1 p1 fun dk vk F2 H2 x2 r2 q2 p2 => ?_
    refine cE.bind r2 p2 fun dv vv F3 H3 x3 r3 q3 p3 => ?_
    cases q2 with
    | int n =>
      have h1' := x3.h _ _ (x2.h _ _ h1)
      refine ⟨_, DGet.k (k := Sum.inl n) h1', ?_⟩
      have lk := look_val (n := n) h2 ((h3.up x2.f).up x3.f)
      cases hd : dLook ks vs n with
      | none => dsimp only at p3; rw [hd] at lk p3; rw [lk]; exact p3 _ F3 H3 (.refl x3.s) q3
      | some d0 =>
        dsimp only at p3
        rw [hd] at lk p3
        obtain ⟨v0, h0, h4⟩ := lk
        rw [h0]
        exact p3 _ F3 H3 (.refl x3.s) h4
    | _ => exact p3.elim
def dDict : D → R
  | .dic ks vs => .ok (.dic ks vs)
  | _ => .bad
theorem calm_dict : Calm1 dDict := ⟨fun x c ns ds h => (by unfold dDict at h; split at h <;> cases h), fun d h => by cases d <;> first | rfl | cases h⟩
theorem call_dictD : CallR X (.type "dict") (fun xs H Q => ∃ a kvs, xs = [.ref a] ∧ H a = some (.dK kvs) ∧ ∀ p, H p = none → Q (.ref p) (upd H p (.dK kvs))) := by
  intro pins s σ H xs us Q I r h
  obtain ⟨a, kvs, rfl, ha, q⟩ := h
  obtain ⟨u, rfl, ru⟩ := vals1 r
  cases ru
  exact d_copyOf I (.inl ha) fun p s' hp I' => ⟨.ref p, _, I', rfl, q p hp⟩
theorem l_dict : LookF X.K (fun xs H Q => ∃ a kvs, xs = [.ref a] ∧ H a = some (.dK kvs) ∧ ∀ p, H p = none → Q (.ref p) (upd H p (.dK kvs))) dDict := by
  intro F H v d d' Q s k e h
  cases k with
  | lst h1 h2 => cases e
  | tup h1 h2 => cases e
  | str => cases e
  | dic h1 h2 h3 =>
    cases e
    exact ⟨_, _, rfl, h1, fun t ht => h t F _ (.own s ht) ht (s.free ht) ⟨_, upd_same, h2, h3⟩⟩
theorem f_dict (hm : X.mg "dict" = none) (ha : PE X e (cB X.K X.mg W o l m)) (hg : Gl X "dict" := by rfl) (he : starEach (e :: []) X.env = (false, eval e X.env) :: starEach [] X.env := by rfl) (hpl : (backTo pos (starEach [] X.env)).any (·.1) = false := by rfl) :
    PE X (.Call (.Name "dict" p) [e] [] pos) (cF X.K X.mg W o l (e1 dDict m)) := f_lookTy call_dictD l_dict calm_dict hm (by decide +kernel) ha hg (by decide) (by decide) he hpl
theorem f_empty : PE X (.Dict [] [] pos) (cF X.K X.mg W o l (eC (.dic [] []))) := PE.sub pe_dnewK fun σ H Q h => by
  obtain ⟨ρ, B, F, r, p⟩ := h
  exact fun d hd => p d F _ (.own r.fh hd) hd (r.fh.free hd) ⟨[], upd_same, rfl, .nil⟩
end
end L2.Pd

/-! Rules for statements, loops, comprehensions; a def by its body. -/
namespace L2.Pd
open PySem PySem.Spec PyProof.Rows

def PostS (K : PySem.W.Frag) (mg : Str → Option Value) (W : WX) (oc o l : List Nat) (F0 : Hp) (B : Bs) (D : Ends) : Out → Prop
  | .nx ρ => ∀ σ F H, Rl K o l ρ σ B F H → Kp F0 B F → D.nx σ H
  | .ret d => ∀ v F H, Rep K F v d → Same F H → Same B.hp H → Kp F0 B F → D.rt v H
  | .brk ρ => ∀ σ F H, Rl K oc l ρ σ B F H → Kp F0 B F → D.bk σ H
  | .cont ρ => ∀ σ F H, Rl K oc l ρ σ B F H → Kp F0 B F → D.ct σ H
  | .exc c ns ds ρ => ∀ cls dd σ F H, Rl K [] l ρ σ B F H → Kp F0 B F → XOk K mg c ns ds cls dd F H → W cls dd σ H
  | .bad => False
def cS (K : PySem.W.Frag) (mg : Str → Option Value) (W : WX) (oc o o' l : List Nat) (m : Sl → Out) : TS := fun D σ H => ∃ ρ B F0 F, Rl K o l ρ σ B F H ∧ Kp F0 B F ∧ PostS K mg W oc o' l F0 B D (m ρ)

section
variable {X : Cx} {W : WX} {oc o o1 o2 o' l : List Nat} {e a b c : Expr} {es : List Expr} {st : Stmt} {rest : List Stmt} {m ma mb mc : Sl → R} {m1 m2 : Sl → Out} {ms : Sl → Rs (List D)} {pos p apos : Pos}

/-! ### blocks -/
def sSeq (m1 m2 : Sl → Out) (ρ : Sl) : Out := match m1 ρ with
  | .nx ρ' => m2 ρ'
  | .ret d => .ret d
  | .brk ρ' => .brk ρ'
  | .cont ρ' => .cont ρ'
  | .exc c ns ds ρ' => .exc c ns ds ρ'
  | .bad => .bad
def sNil (ρ : Sl) : Out := .nx ρ
theorem ss_nil : PSs X [] (cS X.K X.mg W oc o o l sNil) := PSs.sub pss_nil fun D σ H h => by
  obtain ⟨ρ, B, F0, F, r, k, p⟩ := h
  exact p σ F H r k
theorem ss_cons (h1 : PS X st (cS X.K X.mg W oc o o1 l m1)) (h2 : PSs X rest (cS X.K X.mg W oc o1 o2 l m2)) : PSs X (st :: rest) (cS X.K X.mg W oc o o2 l (sSeq m1 m2)) := PSs.sub (pss_cons h1 h2) fun D σ H h => by
  obtain ⟨ρ, B, F0, F, r, k, p⟩ := h
  refine ⟨ρ, B, F0, F, r, k, ?_⟩
  unfold sSeq at p
  cases e : m1 ρ with
  | nx ρ' =>
    rw [e] at p
    exact fun σ' F' H' r' k' => ⟨ρ', B, F0, F', r', k', p⟩
  | ret d => rw [e] at p; exact p
  | brk ρ' => rw [e] at p; exact p
  | cont ρ' => rw [e] at p; exact p
  | exc c ns ds ρ' => rw [e] at p; exact p
  | bad => rw [e] at p; exact p
theorem ss_one (h1 : PS X st (cS X.K X.mg W oc o o1 l m1)) : PSs X [st] (cS X.K X.mg W oc o o1 l m1) := pss_one h1
/-- what is owned at the end is given up, but for o' -/
theorem PostS.weak {K : PySem.W.Frag} {mg : Str → Option Value} {F0 : Hp} {B : Bs} {Dn : Ends} (ds : List Nat) : ∀ {r : Out}, PostS K mg W oc (o1.filter (· ∉ ds)) l F0 B Dn r → PostS K mg W oc o1 l F0 B Dn r
  | .nx ρ, p => fun σ F H r k => by
    obtain ⟨F', r', k', _⟩ := r.weak k ds
    exact p σ F' H r' k'
  | .ret d, p => p
  | .brk ρ, p => p
  | .cont ρ, p => p
  | .exc c ns ds ρ, p => p
theorem s_weak (ds : List Nat) (h : PS X st (cS X.K X.mg W oc o o1 l m1)) (ho : o1.filter (· ∉ ds) = o2 := by decide) : PS X st (cS X.K X.mg W oc o o2 l m1) := PS.sub h fun D σ H h => by
  subst ho
  obtain ⟨ρ, B, F0, F, r, k, p⟩ := h
  exact ⟨ρ, B, F0, F, r, k, PostS.weak ds p⟩
theorem ss_weak {sts : List Stmt} (ds : List Nat) (h : PSs X sts (cS X.K X.mg W oc o o1 l m1)) (ho : o1.filter (· ∉ ds) = o2 := by decide) : PSs X sts (cS X.K X.mg W oc o o2 l m1) := PSs.sub h fun D σ H h => by
  subst ho
  obtain ⟨ρ, B, F0, F, r, k, p⟩ := h
  exact ⟨ρ, B, F0, F, r, k, PostS.weak ds p⟩
/-- .. ahead of the statement -/
theorem s_frz (ds : List Nat) (h : PS X st (cS X.K X.mg W oc o1 o2 l m1)) (ho : o.filter (· ∉ ds) = o1 := by decide) : PS X st (cS X.K X.mg W oc o o2 l m1) := PS.sub h fun D σ H hh => by
  obtain ⟨ρ, B, F0, F, r, k, p⟩ := hh
  subst ho
  obtain ⟨F', r', k', _⟩ := r.weak k ds
  exact ⟨ρ, B, F0, F', r', k', p⟩
/-- no end but by return or an exception: what is owned at the end is free -/
def NoNx (m : Sl → Out) : Prop := ∀ ρ ρ', m ρ ≠ .nx ρ'
theorem ss_free {sts : List Stmt} (hn : NoNx m1) (h : PSs X sts (cS X.K X.mg W oc o o1 l m1)) : PSs X sts (cS X.K X.mg W oc o o2 l m1) := PSs.sub h fun D σ H h => by
  obtain ⟨ρ, B, F0, F, r, k, p⟩ := h
  refine ⟨ρ, B, F0, F, r, k, ?_⟩
  cases e : m1 ρ with
  | nx ρ' => exact absurd e (hn ρ ρ')
  | ret d => rw [e] at p; exact p
  | brk ρ' => rw [e] at p; exact p
  | cont ρ' => rw [e] at p; exact p
  | exc c ns ds ρ' => rw [e] at p; exact p
  | bad => rw [e] at p; exact p

/-! ### from a part to its statement -/
/-- a part's end at its statement -/
def ofR (r : R) (ρ : Sl) (k : D → Out) : Out := match r with
  | .ok d => k d
  | .exc c ns ds => .exc c ns ds ρ
  | .bad => .bad
theorem excS {K : PySem.W.Frag} {mg : Str → Option Value} {F0 : Hp} {B : Bs} {Dn : Ends} {ρ : Sl} {σ : St} {F H : Hp} {c : Str} {ns : List Str} {ds : List D} (r : Rl K o l ρ σ B F H) (k : Kp F0 B F) (p : PostS K mg W oc o' l F0 B Dn (.exc c ns ds ρ)) :
    ∀ cls dd F' H', Ext F H F' H' → XOk K mg c ns ds cls dd F' H' → W cls dd σ H' := fun cls dd F' H' x q => by
  obtain ⟨F2, r2, k2, s2⟩ := (r.ext x).all (k.ext r.bh x)
  refine p cls dd σ F2 H' r2 k2 ⟨q.1, ?_⟩
  rcases q.2 with q | ⟨a, ws, q1, q2, q3, q4⟩
  · exact .inl q
  · exact .inr ⟨a, ws, q1, q2, q3, q4.up s2⟩
theorem cE.toS {K : PySem.W.Frag} {mg : Str → Option Value} {F0 : Hp} {B : Bs} {Dn : Ends} {ρ : Sl} {σ : St} {F H : Hp} {k : D → Out} {Q : VK} (r : Rl K o l ρ σ B F H) (kp : Kp F0 B F) (p : PostS K mg W oc o' l F0 B Dn (ofR (m ρ) ρ k))
    (h : ∀ d v F' H', m ρ = .ok d → Ext F H F' H' → Rl K o l ρ σ B F' H' → Kp F0 B F' → Rep K F' v d → PostS K mg W oc o' l F0 B Dn (k d) → Q v H') : cE K mg W o l m σ H Q := by
  refine ⟨ρ, B, F, r, ?_⟩
  cases e : m ρ with
  | ok d =>
    rw [e] at p
    exact fun v F' H' x q => h d v F' H' e x (r.ext x) (kp.ext r.bh x) q p
  | exc c ns ds =>
    rw [e] at p
    exact excS r kp p
  | bad => rw [e] at p; exact p
theorem cF.toS {K : PySem.W.Frag} {mg : Str → Option Value} {F0 : Hp} {B : Bs} {Dn : Ends} {ρ : Sl} {σ : St} {F H : Hp} {k : D → Out} {Q : VK} (r : Rl K o l ρ σ B F H) (kp : Kp F0 B F) (p : PostS K mg W oc o' l F0 B Dn (ofR (m ρ) ρ k))
    (h : ∀ d t F' H', m ρ = .ok d → Ext F H F' H' → Rl K o l ρ σ B F' H' → Kp F0 B F' → H t = none → F' t = none → Cell K F' H' t d → PostS K mg W oc o' l F0 B Dn (k d) → Q (.ref t) H') : cF K mg W o l m σ H Q := by
  refine ⟨ρ, B, F, r, ?_⟩
  cases e : m ρ with
  | ok d =>
    rw [e] at p
    exact fun t F' H' x q1 q2 q3 => h d t F' H' e x (r.ext x) (kp.ext r.bh x) q1 q2 q3 p
  | exc c ns ds =>
    rw [e] at p
    exact excS r kp p
  | bad => rw [e] at p; exact p

/-! ### return -/
def sRet (m : Sl → R) (ρ : Sl) : Out := ofR (m ρ) ρ .ret
theorem s_ret (h : PE X e (cE X.K X.mg W o l m)) : PS X (.Return (some e) pos) (cS X.K X.mg W oc o o' l (sRet m)) := PS.sub (ps_ret h) fun D σ H h => by
  obtain ⟨ρ, B, F0, F, r, k, p⟩ := h
  exact cE.toS r k p fun d v F' H' _ x r' k' q p' => p' v F' H' q x.s r'.bh k'
def sRetN (_ : Sl) : Out := .ret .non
theorem s_retN : PS X (.Return none pos) (cS X.K X.mg W oc o o' l sRetN) := PS.sub ps_retN fun D σ H h => by
  obtain ⟨ρ, B, F0, F, r, k, p⟩ := h
  exact p .non F H .non r.fh r.bh k
theorem s_pass : PS X (.Pass pos) (cS X.K X.mg W oc o o l sNil) := PS.sub ps_pass fun D σ H h => by
  obtain ⟨ρ, B, F0, F, r, k, p⟩ := h
  exact p σ F H r k
def sCont (ρ : Sl) : Out := .cont ρ
theorem s_cont : PS X (.Continue pos) (cS X.K X.mg W o o o' l sCont) := PS.sub ps_continue fun D σ H h => by
  obtain ⟨ρ, B, F0, F, r, k, p⟩ := h
  exact p σ F H r k
def sBrk (ρ : Sl) : Out := .brk ρ
theorem s_brk : PS X (.Break pos) (cS X.K X.mg W o o o' l sBrk) := PS.sub ps_break fun D σ H h => by
  obtain ⟨ρ, B, F0, F, r, k, p⟩ := h
  exact p σ F H r k
/-! ### if -/
def sIf (t : Sl → Rs Bool) (m1 m2 : Sl → Out) (ρ : Sl) : Out := match t ρ with
  | .ok b => if b = true then m1 ρ else m2 ρ
  | .exc c ns ds => .exc c ns ds ρ
  | .bad => .bad
theorem s_if {t : Sl → Rs Bool} {sa sb : List Stmt} (ht : PT X c (cT X.K X.mg W o l t)) (h1 : PSs X sa (cS X.K X.mg W oc o o1 l m1)) (h2 : PSs X sb (cS X.K X.mg W oc o o1 l m2)) : PS X (.If c sa sb pos) (cS X.K X.mg W oc o o1 l (sIf t m1 m2)) := PS.sub (ps_if ht h1 h2) fun D σ H h => by
  obtain ⟨ρ, B, F0, F, r, k, p⟩ := h
  refine ⟨ρ, B, F, r, ?_⟩
  unfold sIf at p
  cases e : t ρ with
  | ok b =>
    rw [e] at p
    intro F' H' x
    refine ite2 (fun hb => ?_) (fun hb => ?_)
    · dsimp only at p
      rw [if_pos hb] at p
      exact ⟨ρ, B, F0, F', r.ext x, k.ext r.bh x, p⟩
    · dsimp only at p
      rw [if_neg hb] at p
      exact ⟨ρ, B, F0, F', r.ext x, k.ext r.bh x, p⟩
  | exc c ns ds => rw [e] at p; exact excS r k p
  | bad => rw [e] at p; exact p
/-! ### stores to names -/
theorem Rl.set {K : PySem.W.Frag} {ρ : Sl} {σ : St} {B : Bs} {F H : Hp} (r : Rl K o l ρ σ B F H) {i : Nat} {v : V} {d : D} (hl : i ∉ l) (q : Rep K F v d) : Rl K (o.filter (· ≠ i)) l (ρ.set i (some d)) (σ.set i (some v)) B F H := by
  have look : ∀ {α : Type} {x : List (Option α)} {j : Nat} {y : Option α}, j ≠ i → (x.set i y)[j]? = x[j]? := fun {α x j y} h => List.getElem?_set_ne (Ne.symm h)
  refine ⟨by rw [List.length_set, List.length_set]; exact r.len, r.fh, r.bh, fun j e h1 h2 hj => ?_, fun j hj e he => ?_, fun j hj => ?_, fun a ha b hb hab da db p h1 h2 h3 => ?_⟩
  · by_cases hji : j = i
    · subst hji
      have hlt : j < ρ.length := by
        have := (List.getElem?_eq_some_iff.mp hj).1
        simpa using this
      rw [List.getElem?_set_self hlt] at hj
      cases hj
      exact ⟨v, by rw [List.getElem?_set_self (by rw [r.len]; exact hlt)], q⟩
    · rw [look hji] at hj ⊢
      exact r.val j e (fun z => h1 (List.mem_filter.mpr ⟨z, by simpa using hji⟩)) h2 hj
  · obtain ⟨hj1, hj2⟩ := List.mem_filter.mp hj
    have hji : j ≠ i := by simpa using hj2
    rw [look hji] at he ⊢
    exact r.own j hj1 e he
  · have hji : j ≠ i := fun z => hl (z ▸ hj)
    obtain ⟨d', q1, q2⟩ := r.loan j hj
    exact ⟨d', by rw [look hji]; exact q1, by rw [look hji]; exact q2⟩
  · obtain ⟨ha1, ha2⟩ := List.mem_filter.mp ha
    obtain ⟨hb1, hb2⟩ := List.mem_filter.mp hb
    have hai : a ≠ i := by simpa using ha2
    have hbi : b ≠ i := by simpa using hb2
    rw [look hai] at h1 h3
    rw [look hbi] at h2 ⊢
    exact r.sep a ha1 b hb1 hab da db p h1 h2 h3
/-- a slot gets a new list or dict of its own -/
theorem Rl.setF {K : PySem.W.Frag} {ρ : Sl} {σ : St} {B : Bs} {F H F' H' : Hp} (r : Rl K o l ρ σ B F H) (x : Ext F H F' H') {i : Nat} {t : Addr} {d : D} (hl : i ∉ l) (ht : H t = none) (hf : F' t = none) (c : Cell K F' H' t d) : Rl K (i :: o.filter (· ≠ i)) l (ρ.set i (some d)) (σ.set i (some (.ref t))) B F' H' := by
  have look : ∀ {α : Type} {x : List (Option α)} {j : Nat} {y : Option α}, j ≠ i → (x.set i y)[j]? = x[j]? := fun {α x j y} h => List.getElem?_set_ne (Ne.symm h)
  have r' := r.ext x
  have old : ∀ j, j ∈ o → ∀ e q, ρ[j]? = some (some e) → σ[j]? = some (some (.ref q)) → q ≠ t := fun j hj e q h1 h2 z => by
    obtain ⟨q', q1, _, _, q4⟩ := r.own j hj e h1
    rw [h2] at q1
    cases q1
    obtain ⟨u, hu⟩ := Cell.has q4
    rw [z, ht] at hu
    cases hu
  have self : ∀ {e}, (ρ.set i (some d))[i]? = some (some e) → e = d ∧ (σ.set i (some (V.ref t)))[i]? = some (some (.ref t)) := fun {e} h => by
    have hlt : i < ρ.length := by
      have := (List.getElem?_eq_some_iff.mp h).1
      simpa using this
    rw [List.getElem?_set_self hlt] at h
    cases h
    exact ⟨rfl, by rw [List.getElem?_set_self (by rw [r.len]; exact hlt)]⟩
  refine ⟨by rw [List.length_set, List.length_set]; exact r.len, r'.fh, r'.bh, fun j e h1 h2 hj => ?_, fun j hj e he => ?_, fun j hj => ?_, fun a ha b hb hab da db p h1 h2 h3 h4 => ?_⟩
  · have hji : j ≠ i := fun z => h1 (z ▸ List.mem_cons_self)
    rw [look hji] at hj ⊢
    exact r'.val j e (fun z => h1 (List.mem_cons_of_mem _ (List.mem_filter.mpr ⟨z, by simpa using hji⟩))) h2 hj
  · by_cases hji : j = i
    · subst hji
      obtain ⟨e1, e2⟩ := self he
      subst e1
      refine ⟨t, e2, hf, ?_, c⟩
      cases q : B.hp t with
      | none => rfl
      | some u => have := r.bh _ _ q; rw [ht] at this; cases this
    · rcases List.mem_cons.mp hj with z | z
      · exact absurd z hji
      · rw [look hji] at he ⊢
        exact r'.own j (List.mem_filter.mp z).1 e he
  · have hji : j ≠ i := fun z => hl (z ▸ hj)
    obtain ⟨d', q1, q2⟩ := r'.loan j hj
    exact ⟨d', by rw [look hji]; exact q1, by rw [look hji]; exact q2⟩
  · by_cases hai : a = i
    · subst hai
      have hba : b ≠ a := Ne.symm hab
      obtain ⟨e1, e2⟩ := self h1
      rw [e2] at h3
      cases h3
      rcases List.mem_cons.mp hb with z | z
      · exact hba z
      · rw [look hba] at h2 h4
        exact old b (List.mem_filter.mp z).1 db _ h2 h4 rfl
    · rcases List.mem_cons.mp ha with z | z
      · exact hai z
      · have ha1 := (List.mem_filter.mp z).1
        rw [look hai] at h1 h3
        by_cases hbi : b = i
        · subst hbi
          obtain ⟨e1, e2⟩ := self h2
          rw [e2] at h4
          cases h4
          exact old a ha1 da _ h1 h3 rfl
        · rcases List.mem_cons.mp hb with z' | z'
          · exact hbi z'
          · rw [look hbi] at h2 h4
            exact r.sep a ha1 b (List.mem_filter.mp z').1 hab da db p h1 h2 h3 h4
def sSet (i : Nat) (m : Sl → R) (ρ : Sl) : Out := ofR (m ρ) ρ fun d => .nx (ρ.set i (some d))
theorem s_set (i : Nat) {x : Str} {pos' : Pos} (h : PE X e (cE X.K X.mg W o l m)) (hN : X.N.Nodup) (ho : o.filter (· ≠ i) = o1 := by decide) (hi : X.N[i]? = some x := by rfl) (hx : Loc X.env.scope x := by first | exact Or.inl rfl | exact Or.inr rfl) (hl : i ∉ l := by decide)
    (hs : swapsWith e (some (.Name x pos')) pos.line X.env = pure false := by rfl) (hf : X.fn x = true ∨ X.env.scope.names.lookup x = some .local := by first | exact .inl rfl | exact .inr rfl | assumption) :
    PS X (.Assign [.Name x pos'] e pos) (cS X.K X.mg W oc o o1 l (sSet i m)) := PS.sub (ps_set (i := i) hN hi hx h hs hf) fun D σ H h => by
  subst ho
  obtain ⟨ρ, B, F0, F, r, k, p⟩ := h
  exact cE.toS r k p fun d v F' H' _ x r' k' q p' => p' _ F' H' (r'.set hl q) k'
theorem s_own (i : Nat) {x : Str} {pos' : Pos} (h : PE X e (cF X.K X.mg W o l m)) (hN : X.N.Nodup) (ho : i :: o.filter (· ≠ i) = o1 := by decide) (hi : X.N[i]? = some x := by rfl) (hx : Loc X.env.scope x := by first | exact Or.inl rfl | exact Or.inr rfl) (hl : i ∉ l := by decide)
    (hs : swapsWith e (some (.Name x pos')) pos.line X.env = pure false := by rfl) (hf : X.fn x = true ∨ X.env.scope.names.lookup x = some .local := by first | exact .inl rfl | exact .inr rfl | assumption) :
    PS X (.Assign [.Name x pos'] e pos) (cS X.K X.mg W oc o o1 l (sSet i m)) := PS.sub (ps_set (i := i) hN hi hx h hs hf) fun D σ H h => by
  subst ho
  obtain ⟨ρ, B, F0, F, r, k, p⟩ := h
  exact cF.toS r k p fun d t F' H' _ x r' k' q1 q2 q3 p' => p' _ F' H' (r.setF x hl q1 q2 q3) k'
/-! ### targets -/
def cG (K : PySem.W.Frag) (o o' l : List Nat) (g : D → Sl → Option Sl) : TG := fun v σ H Q => ∃ ρ B F d, Rl K o l ρ σ B F H ∧ Rep K F v d ∧ ∃ ρ', g d ρ = some ρ' ∧ ∀ σ', Rl K o' l ρ' σ' B F H → Q σ' H
def cGs (K : PySem.W.Frag) (o o' l : List Nat) (g : List D → Sl → Option Sl) : TGs := fun vs σ H Q => ∃ ρ B F ds, Rl K o l ρ σ B F H ∧ Reps K F vs ds ∧ ∃ ρ', g ds ρ = some ρ' ∧ ∀ σ', Rl K o' l ρ' σ' B F H → Q σ' H
theorem PG.sub {e : Expr} {t u : TG} (h : PG X e t) (k : ∀ v σ H Q, u v σ H Q → t v σ H Q) : PG X e u := ⟨fun pins s σ H x v Q I r q => h.run pins s σ H x v Q I r (k _ _ _ _ q)⟩
theorem PGs.sub {e : List Expr} {t u : TGs} (h : PGs X e t) (k : ∀ v σ H Q, u v σ H Q → t v σ H Q) : PGs X e u := ⟨fun pins s σ H x v Q I r q => h.run pins s σ H x v Q I r (k _ _ _ _ q)⟩
def gN (i : Nat) (d : D) (ρ : Sl) : Option Sl := some (ρ.set i (some d))
def gsNil : List D → Sl → Option Sl
  | [], ρ => some ρ
  | _ :: _, _ => none
def gsCons (g : D → Sl → Option Sl) (gs : List D → Sl → Option Sl) : List D → Sl → Option Sl
  | d :: r, ρ => (g d ρ).bind fun ρ' => gs r ρ'
  | [], _ => none
def gT (n : Nat) (gs : List D → Sl → Option Sl) (d : D) (ρ : Sl) : Option Sl := match d with
  | .tup ds => if ds.length = n then gs ds ρ else none
  | _ => none
theorem g_name (i : Nat) {x : Str} (hN : X.N.Nodup) (ho : o.filter (· ≠ i) = o1 := by decide) (hi : X.N[i]? = some x := by rfl) (hx : Loc X.env.scope x := by first | exact Or.inl rfl | exact Or.inr rfl) (hl : i ∉ l := by decide) (hf : X.fn x = true ∨ X.env.scope.names.lookup x = some .local := by first | exact .inl rfl | exact .inr rfl | assumption) :
    PG X (.Name x pos) (cG X.K o o1 l (gN i)) := PG.sub (pg_name (i := i) hN hi hx hf) fun v σ H Q h => by
  subst ho
  obtain ⟨ρ, B, F, d, r, q, ρ', e, k⟩ := h
  cases e
  exact k _ (r.set hl q)
theorem g_nil : PGs X [] (cGs X.K o o l gsNil) := PGs.sub pgs_nil fun v σ H Q h => by
  obtain ⟨ρ, B, F, ds, r, q, ρ', e, k⟩ := h
  cases q with
  | nil => cases e; exact ⟨rfl, k _ r⟩
  | cons _ _ => cases e
theorem g_cons {g : D → Sl → Option Sl} {gs : List D → Sl → Option Sl} (h1 : PG X e (cG X.K o o1 l g)) (h2 : PGs X es (cGs X.K o1 o2 l gs)) (hs : (assignEach (e :: es) X.env).map (·.2) = assign e X.env :: (assignEach es X.env).map (·.2) := by rfl) :
    PGs X (e :: es) (cGs X.K o o2 l (gsCons g gs)) := PGs.sub (pgs_cons h1 h2 hs) fun v σ H Q h => by
  obtain ⟨ρ, B, F, ds, r, q, ρ', e, k⟩ := h
  cases q with
  | nil => cases e
  | cons q1 q2 =>
    obtain ⟨ρ1, e1, e2⟩ := Option.bind_eq_some_iff.mp e
    exact ⟨_, _, rfl, ρ, B, F, _, r, q1, ρ1, e1, fun σ1 r1 => ⟨ρ1, B, F, _, r1, q2, ρ', e2, k⟩⟩
theorem g_tup {kk n : Nat} {gs : List D → Sl → Option Sl} (hc : X.calm = true) (h : PGs X es (cGs X.K o o1 l gs)) (hn : (assignEach es X.env).length = n := by rfl) (hst : (assignEach es X.env).findIdx? (·.1) = none := by rfl) : PG X (.Tuple es kk pos) (cG X.K o o1 l (gT n gs)) := PG.sub (pg_tup (n := n) hc h hn hst) fun v σ H Q h => by
  obtain ⟨ρ, B, F, d, r, q, ρ', e, k⟩ := h
  unfold gT at e
  split at e
  · split at e
    · rename_i hl
      cases q with
      | tup q1 q2 => exact ⟨_, _, rfl, Same.sqt r.fh q1, by rw [q2.length]; exact hl, ρ, B, F, _, r, q2, ρ', e, k⟩
    · cases e
  · cases e
def sUnp (g : D → Sl → Option Sl) (m : Sl → R) (ρ : Sl) : Out := ofR (m ρ) ρ fun d => match g d ρ with
  | some ρ' => .nx ρ'
  | none => .bad
theorem s_unp {tg : Expr} {g : D → Sl → Option Sl} (h : PE X e (cE X.K X.mg W o l m)) (hg : PG X tg (cG X.K o o1 l g)) (hs : swapsWithSole [tg] e pos.line X.env = pure false := by rfl) (hw : swappedStores [tg] e X.env = pure none := by rfl) (h1 : (assignEach [tg] X.env).map (·.2) = [assign tg X.env] := by rfl) :
    PS X (.Assign [tg] e pos) (cS X.K X.mg W oc o o1 l (sUnp g m)) := PS.sub (ps_asg h hg hs hw h1) fun D σ H h => by
  obtain ⟨ρ, B, F0, F, r, k, p⟩ := h
  refine cE.toS r k p fun d v F' H' _ x r' k' q p' => ?_
  cases e : g d ρ with
  | none => rw [e] at p'; exact p'.elim
  | some ρ' =>
    rw [e] at p'
    exact ⟨ρ, B, F', d, r', q, ρ', e, fun σ' r2 => p' σ' F' H' r2 k'⟩
/-! ### a call alone -/
def sDrop (m : Sl → R) (ρ : Sl) : Out := ofR (m ρ) ρ fun _ => .nx ρ
theorem s_drop (h : PE X e (cE X.K X.mg W o l m)) (hs : swapsWith e none pos.line X.env = pure false := by rfl) : PS X (.Expr e pos) (cS X.K X.mg W oc o o l (sDrop m)) := PS.sub (ps_expr h hs) fun D σ H h => by
  obtain ⟨ρ, B, F0, F, r, k, p⟩ := h
  exact cE.toS r k p fun d v F' H' _ x r' k' q p' => p' σ F' H' r' k'
theorem s_doc {x : Str} {j pos'} : PS X (.Expr (.Constant (.str x) j pos) pos') (cS X.K X.mg W oc o o l sNil) := PS.sub ps_doc fun D σ H h => by
  obtain ⟨ρ, B, F0, F, r, k, p⟩ := h
  exact p σ F H r k
/-! ### changes of an owned list or dict -/
theorem Rl.write {K : PySem.W.Frag} {ρ : Sl} {σ : St} {B : Bs} {F H : Hp} (r : Rl K o l ρ σ B F H) {i : Nat} {t : Addr} {d : D} {u : HO} {d0 : D} (hi : i ∈ o) (hl : i ∉ l) (h0 : ρ[i]? = some (some d0)) (hs : σ[i]? = some (some (.ref t))) (c : Cell K F (upd H t u) t d) : Rl K o l (ρ.set i (some d)) σ B F (upd H t u) := by
  have look : ∀ {α : Type} {x : List (Option α)} {j : Nat} {y : Option α}, j ≠ i → (x.set i y)[j]? = x[j]? := fun {α x j y} h => List.getElem?_set_ne (Ne.symm h)
  have hlt : i < ρ.length := (List.getElem?_eq_some_iff.mp h0).1
  obtain ⟨t', e1, e2, e3, e4⟩ := r.own i hi d0 h0
  rw [hs] at e1
  cases e1
  refine ⟨by rw [List.length_set]; exact r.len, fun b w q => ?_, fun b w q => ?_, fun j e h1 h2 hj => ?_, fun j hj e he => ?_, fun j hj => ?_, fun a ha b hb hab da db p h1 h2 h3 => ?_⟩
  · rw [upd_ne (ne_of_none q e2)]; exact r.fh _ _ q
  · rw [upd_ne (ne_of_none q e3)]; exact r.bh _ _ q
  · have hji : j ≠ i := fun z => h1 (z ▸ hi)
    rw [look hji] at hj
    exact r.val j e h1 h2 hj
  · by_cases hji : j = i
    · subst hji
      rw [List.getElem?_set_self hlt] at he
      cases he
      exact ⟨t, hs, e2, e3, c⟩
    · rw [look hji] at he
      obtain ⟨q, q1, q2, q3, q4⟩ := r.own j hj e he
      have nq : q ≠ t := fun z => r.sep i hi j hj (Ne.symm hji) d0 e t h0 he hs (by rw [← z]; exact q1)
      exact ⟨q, q1, q2, q3, Cell.up (.refl _) (fun w hw => by rw [upd_ne nq]; exact hw) q4⟩
  · have hji : j ≠ i := fun z => hl (z ▸ hj)
    obtain ⟨d', q1, q2⟩ := r.loan j hj
    exact ⟨d', by rw [look hji]; exact q1, q2⟩
  · have asg : ∀ {k dk}, (ρ.set i (some d))[k]? = some (some dk) → ∃ dk', ρ[k]? = some (some dk') := fun {k dk} h => by
      by_cases hk : k = i
      · subst hk; exact ⟨d0, h0⟩
      · rw [look hk] at h; exact ⟨dk, h⟩
    obtain ⟨da', h1'⟩ := asg h1
    obtain ⟨db', h2'⟩ := asg h2
    exact r.sep a ha b hb hab da' db' p h1' h2' h3
def sApp (i : Nat) (m : Sl → R) (ρ : Sl) : Out := match ρ[i]? with
  | some (some (.lst ds)) => ofR (m ρ) ρ fun d => if sizeOkN ds.length then .nx (ρ.set i (some (.lst (ds ++ [d])))) else .bad
  | _ => .bad
theorem s_app (i : Nat) {x : Str} {p1 : Pos} (h : PE X e (cE X.K X.mg W o l m)) (hN : X.N[i]? = some x := by rfl) (hv : Vis X.env.scope x := by first | exact Or.inl rfl | exact Or.inr (Or.inl rfl) | exact Or.inr (Or.inr rfl)) (hi : i ∈ o := by decide) (hl : i ∉ l := by decide) (hd : (x == ("__debug__" : Str)) = false := by decide)
    (hcd : (x == ("__classdict__" : Str)) = false := by decide)
    (hbase : attributeBase (.Name x p1) "append" X.env (eval (.Name x p1) X.env) = eval (.Name x p1) X.env := by rfl)
    (hfew : ((backTo p (starEach (e :: []) X.env)).all (fun x => !x.1) && (backToKw p (keywordEach [] X.env)).all (fun x => x.1.isSome)
      && decide ((e :: []).length + ([] : List Keyword).length + (if ([] : List Keyword).isEmpty then 0 else 1) < 30)) = true := by rfl)
    (hline : (apos.endLine == p.line) = true := by rfl) (hs : starEach (e :: []) X.env = (false, eval e X.env) :: starEach [] X.env := by rfl) (hplain : (backTo p (starEach [] X.env)).any (·.1) = false := by rfl) (hsw : swapsWith (.Call (.Attribute (.Name x p1) "append" apos) [e] [] p) none pos.line X.env = pure false := by rfl) :
    PS X (.Expr (.Call (.Attribute (.Name x p1) "append" apos) [e] [] p) pos) (cS X.K X.mg W oc o o l (sApp i m)) := by
  refine PS.sub (ps_expr (pe_bm PySem.F.plainAttrs_list PySem.F.slot_list_append PySem.F.type_list_append mt_append (pe_var hN hv hd hcd) (pa_cons h pa_nil hs) hbase hfew hline hs hplain) hsw) fun D σ H hh => ?_
  obtain ⟨ρ, B, F0, F, r, k, p⟩ := hh
  unfold sApp at p
  split at p
  · rename_i ds hds
    obtain ⟨t, e1, e2, e3, vs, e4, e5⟩ := r.own i hi _ hds
    refine ⟨_, e1, .inl ⟨rfl, _, .inl (.inl e4)⟩, ?_⟩
    refine cE.toS r k p fun d v F' H' _ x r' k' q p' => ?_
    split at p'
    · rename_i hz
      have h4 := x.h _ _ e4
      have e5' := e5.up x.f
      refine ⟨t, vs, v, rfl, rfl, h4, by rw [e5.length]; exact sizeOkN_lt hz, ?_⟩
      exact p' σ F' _ (r'.write hi hl hds e1 ⟨_, upd_same, Reps.append e5' (.cons q .nil)⟩) k'
    · exact p'.elim
  · exact p.elim
end
end L2.Pd

/-! Loops and comprehensions. -/
namespace L2.Pd
open PySem PySem.Spec PyProof.Rows
section
variable {X : Cx} {W : WX} {oc o o1 o2 o' l : List Nat} {e a b c : Expr} {es : List Expr} {st : Stmt} {rest : List Stmt} {m ma mb mc : Sl → R} {m1 m2 : Sl → Out} {ms : Sl → Rs (List D)} {pos p apos : Pos}

/-! ### o[k] = v -/
def sSetIx (i : Nat) (mk mv : Sl → R) (ρ : Sl) : Out := match ρ[i]? with
  | some (some (.lst ds)) => ofR (mv ρ) ρ fun v => ofR (mk ρ) ρ fun k => match k with
    | .int n => match ixN ds.length n with
      | some j => .nx (ρ.set i (some (.lst (ds.set j v))))
      | none => .bad
    | _ => .bad
  | some (some (.dic ks vs)) => ofR (mv ρ) ρ fun v => ofR (mk ρ) ρ fun k => match k with
    | .int n => if sizeOkN ks.length then .nx (ρ.set i (some (dPut ks vs n v))) else .bad
    | _ => .bad
  | _ => .bad
theorem PS.or {st : Stmt} {t u : TS} (h : PS X st t) (h' : PS X st u) : PS X st (fun D σ H => t D σ H ∨ u D σ H) := ⟨fun pins s σ H D I q => q.elim (h.run pins s σ H D I) (h'.run pins s σ H D I)⟩
theorem s_setix (i : Nat) {x : Str} {k v : Expr} {p1 pos' : Pos} {mk mv : Sl → R} (hu : X.A.units + 1 < cLine) (hk : PE X k (cE X.K X.mg W o l mk)) (hv : PE X v (cE X.K X.mg W o l mv)) (hN : X.N[i]? = some x := by rfl) (hvi : Vis X.env.scope x := by first | exact Or.inl rfl | exact Or.inr (Or.inl rfl) | exact Or.inr (Or.inr rfl)) (hi : i ∈ o := by decide) (hl : i ∉ l := by decide)
    (hd : (x == ("__debug__" : Str)) = false := by decide) (hcd : (x == ("__classdict__" : Str)) = false := by decide)
    (hs : swapsWithSole [.Subscript (.Name x p1) k pos'] v pos.line X.env = pure false := by rfl) (hw : swappedStores [.Subscript (.Name x p1) k pos'] v X.env = pure none := by rfl) (h1 : (assignEach [.Subscript (.Name x p1) k pos'] X.env).map (·.2) = [assign (.Subscript (.Name x p1) k pos') X.env] := by rfl)
    (ha : ∀ w, assign (.Subscript (.Name x p1) k pos') X.env w = (do
      let ov ← holding [w] (eval (.Name x p1) X.env)
      let iv ← holding [w, ov] (eval k X.env)
      standAt pos'
      holding [w, ov, iv] (setItem ov iv w)
      release [w, ov, iv] []) := by intro _; rfl) (hs2 : swapsWith v (some (.Subscript (.Name x p1) k pos')) pos.line X.env = pure false := by rfl) :
    PS X (.Assign [.Subscript (.Name x p1) k pos'] v pos) (cS X.K X.mg W oc o o l (sSetIx i mk mv)) := by
  have hx : PE X (.Name x p1) (tVar i) := pe_var hN hvi hd hcd
  refine PS.sub (PS.or (ps_asg hv (pg_sub hx hk set_list ha) hs hw h1) (ps_dput hu hx hk hv hs2)) fun Dn σ H hh => ?_
  obtain ⟨ρ, B, F0, F, r, kp, q⟩ := hh
  unfold sSetIx at q
  split at q
  · rename_i ds hds
    refine .inl (cE.toS r kp q fun dv vv F1 H1 _ x1 r1 k1 q1 p1 => ?_)
    obtain ⟨t, e1, e2, e3, vs, e4, e5⟩ := r1.own i hi _ hds
    refine ⟨_, e1, cE.toS r1 k1 p1 fun dk vk F2 H2 _ x2 r2 k2 q2 p2 => ?_⟩
    cases q2 with
    | int n =>
      dsimp only at p2
      split at p2
      · rename_i j hj
        have h4 := x2.h _ _ e4
        refine ⟨t, vs, n, j, rfl, rfl, h4, by rw [e5.length]; exact hj, ?_⟩
        exact p2 σ F2 _ (r2.write hi hl hds e1 ⟨_, upd_same, Reps.set (e5.up x2.f) (q1.up x2.f)⟩) k2
      · exact p2.elim
    | _ => exact p2.elim
  · rename_i ks ds hds
    refine .inr (cE.toS r kp q fun dv vv F1 H1 _ x1 r1 k1 q1 p1 => ?_)
    obtain ⟨t, e1, e2, e3, vs, e4, e5, e6⟩ := r1.own i hi _ hds
    refine ⟨_, e1, cE.toS r1 k1 p1 fun dk vk F2 H2 _ x2 r2 k2 q2 p2 => ?_⟩
    cases q2 with
    | int n =>
      dsimp only at p2
      split at p2
      · rename_i hz
        have h4 := x2.h _ _ e4
        obtain ⟨ks', ds', g1, g2, g3⟩ := put_ok (n := n) e5 (e6.up x2.f) (q1.up x2.f)
        rw [g1] at p2
        have hlen : vs.length < sizeLine := by
          have h5 := congrArg List.length e5
          simp only [List.length_map] at h5
          rw [h5]
          exact sizeOkN_lt hz
        refine ⟨t, _, rfl, DPut.k (k := Sum.inl n) h4 hlen, ?_⟩
        exact p2 σ F2 _ (r2.write hi hl hds e1 ⟨_, upd_same, g2, g3⟩) k2
      · exact p2.elim
    | _ => exact p2.elim
  · exact q.elim

/-! ### what lasts through a loop -/
/-- an iterator J gives the items ds -/
def Wlk (K : PySem.W.Frag) (J : It) (ds : List D) (Bh F1 : Hp) : Prop := ∀ i F H, Same F1 F → Same Bh H → Same F H →
  (∀ d, ds[i]? = some d → J.go i H ∧ ∀ x H', J.yld i H x H' → ∃ F', Ext F H F' H' ∧ Rep K F' x d) ∧ (ds.length ≤ i → J.stop i H)
def PostI (K : PySem.W.Frag) (mg : Str → Option Value) (B : Bs) (F H : Hp) (R' : It → Hp → Prop) (W : XW) : Rs (List D) → Prop
  | .ok ds => ∀ J F' H', Ext F H F' H' → Wlk K J ds B.hp F' → R' J H'
  | .exc c ns ds => ∀ cls dd F' H', Ext F H F' H' → XOk K mg c ns ds cls dd F' H' → W cls dd H'
  | .bad => False
def cI (K : PySem.W.Frag) (mg : Str → Option Value) (W : WX) (o l : List Nat) (m : Sl → Rs (List D)) : TI := fun σ H R' => ∃ ρ B F, Rl K o l ρ σ B F H ∧ PostI K mg B F H R' (fun c d H' => W c d σ H') (m ρ)
theorem PI.sub {tg e : Expr} {t u : TI} (h : PI X tg e t) (k : ∀ σ H Q, u σ H Q → t σ H Q) : PI X tg e u := ⟨fun pins s σ H Q I q => h.run pins s σ H Q I (k σ H Q q)⟩
theorem PI.or {tg e : Expr} {t u : TI} (h : PI X tg e t) (h' : PI X tg e u) : PI X tg e (fun σ H Q => t σ H Q ∨ u σ H Q) := ⟨fun pins s σ H Q I q => q.elim (h.run pins s σ H Q I) (h'.run pins s σ H Q I)⟩
/-- the signs of a text -/
def signs (x : Str) : List D := x.cps.toList.map fun c => .str ⟨#[c]⟩
def dIt : D → Rs (List D)
  | .lst ds => .ok ds
  | .tup ds => .ok ds
  | .str x => .ok (signs x)
  | _ => .bad
def iOf (m : Sl → R) (ρ : Sl) : Rs (List D) := (m ρ).bind dIt
theorem wlk_list {K : PySem.W.Frag} {a : Addr} {xs : List V} {ds : List D} {Bh F1 : Hp} (h : SqL K F1 a xs ∨ SqL K Bh a xs) (r : Reps K F1 xs ds) : Wlk K (Itl K a) ds Bh F1 := by
  intro i F H s1 s2 s3
  have hq : SqL K H a xs := h.elim (fun q => s3.seq (s1.seq q)) (fun q => s2.seq q)
  refine ⟨fun d hd => ?_, fun hi => ⟨xs, hq, by rw [r.length]; exact hi⟩⟩
  obtain ⟨v, hv, rv⟩ := r.get hd
  refine ⟨⟨xs, v, hq, hv⟩, fun x H' hy => ?_⟩
  obtain ⟨rfl, fv⟩ := hy
  have := fv xs hq
  rw [hv] at this
  cases this
  exact ⟨F, .refl s3, rv.up s1⟩
theorem wlk_tup {K : PySem.W.Frag} {a : Addr} {xs : List V} {ds : List D} {Bh F1 : Hp} (h : SqT K F1 a xs) (r : Reps K F1 xs ds) : Wlk K (Itt K a) ds Bh F1 := by
  intro i F H s1 s2 s3
  have hq : SqT K H a xs := Same.sqt s3 (Same.sqt s1 h)
  refine ⟨fun d hd => ?_, fun hi => ⟨xs, hq, by rw [r.length]; exact hi⟩⟩
  obtain ⟨v, hv, rv⟩ := r.get hd
  refine ⟨⟨xs, v, hq, hv⟩, fun x H' hy => ?_⟩
  obtain ⟨rfl, fv⟩ := hy
  have := fv xs hq
  rw [hv] at this
  cases this
  exact ⟨F, .refl s3, rv.up s1⟩
theorem wlk_str {K : PySem.W.Frag} {y : Str} {Bh F1 : Hp} : Wlk K (Its y) (signs y) Bh F1 := by
  intro i F H s1 s2 s3
  refine ⟨fun d hd => ?_, fun hi => ?_⟩
  · unfold signs at hd
    rw [List.getElem?_map] at hd
    obtain ⟨c, h1, h2⟩ := Option.map_eq_some_iff.mp hd
    subst h2
    refine ⟨?_, fun x H' hy => ?_⟩
    · show i < y.cps.size
      have := (List.getElem?_eq_some_iff.mp h1).1
      simpa using this
    · obtain ⟨rfl, c', h3, rfl⟩ := hy
      have e : y.cps[i]? = some c := by rw [← Array.getElem?_toList]; exact h1
      rw [e] at h3
      cases h3
      exact ⟨F, .refl s3, .str _⟩
  · unfold signs at hi
    show y.cps.size ≤ i
    simpa using hi
theorem wlk_range {K : PySem.W.Frag} {lo : Int} {n : Nat} {Bh F1 : Hp} : Wlk K (Itr lo n) ((List.range n).map fun k => D.int (lo + (k : Nat))) Bh F1 := by
  intro i F H s1 s2 s3
  refine ⟨fun d hd => ?_, fun hi => ?_⟩
  · rw [List.getElem?_map] at hd
    obtain ⟨k, h1, h2⟩ := Option.map_eq_some_iff.mp hd
    subst h2
    obtain ⟨h3, h4⟩ := List.getElem?_eq_some_iff.mp h1
    rw [List.getElem_range] at h4
    subst h4
    rw [List.length_range] at h3
    refine ⟨h3, fun x H' hy => ?_⟩
    obtain ⟨rfl, rfl⟩ := hy
    exact ⟨F, .refl s3, .int _⟩
  · show n ≤ i
    simpa using hi
def enumD (k : Nat) : List D → List D
  | [] => []
  | d :: r => .tup [.int (k : Nat), d] :: enumD (k + 1) r
theorem enumD_get : ∀ (ds : List D) (k i : Nat), (enumD k ds)[i]? = (ds[i]?).map fun d => D.tup [.int ((k + i : Nat) : Int), d]
  | [], k, i => by simp [enumD]
  | d :: r, k, 0 => by simp [enumD]
  | d :: r, k, i + 1 => by
    show (enumD (k + 1) r)[i]? = _
    rw [enumD_get r (k + 1) i]
    show _ = (r[i]?).map _
    rw [show k + 1 + i = k + (i + 1) by omega]
theorem enumD_len : ∀ (ds : List D) (k : Nat), (enumD k ds).length = ds.length
  | [], _ => rfl
  | d :: r, k => congrArg (· + 1) (enumD_len r (k + 1))
theorem wlk_enum {K : PySem.W.Frag} {a : Addr} {xs : List V} {ds : List D} {Bh F1 : Hp} (h : SqL K F1 a xs ∨ SqL K Bh a xs) (r : Reps K F1 xs ds) : Wlk K (Ite K a) (enumD 0 ds) Bh F1 := by
  intro i F H s1 s2 s3
  have hq : SqL K H a xs := h.elim (fun q => s3.seq (s1.seq q)) (fun q => s2.seq q)
  refine ⟨fun d hd => ?_, fun hi => ⟨xs, hq, by rw [r.length, ← enumD_len ds 0]; exact hi⟩⟩
  rw [enumD_get] at hd
  obtain ⟨d', h1, h2⟩ := Option.map_eq_some_iff.mp hd
  subst h2
  obtain ⟨v, hv, rv⟩ := r.get h1
  refine ⟨⟨xs, v, hq, hv⟩, fun x H' hy => ?_⟩
  obtain ⟨T, x1, rfl, hT, rfl, fv⟩ := hy
  have := fv xs hq
  rw [hv] at this
  cases this
  refine ⟨_, .new s3 hT, .tup (.inl (.inl upd_same)) (.cons ?_ (.cons ((rv.up s1).up (Ext.new s3 hT).f) .nil))⟩
  rw [Nat.zero_add]
  exact .int _
def zipD : List D → List D → List D
  | d :: r, e :: s => .tup [d, e] :: zipD r s
  | _, _ => []
theorem zipD_get : ∀ (ds es : List D) (i : Nat) (d : D), (zipD ds es)[i]? = some d → ∃ x y, ds[i]? = some x ∧ es[i]? = some y ∧ d = .tup [x, y]
  | [], _, i, d, h => by simp [zipD] at h
  | _ :: _, [], i, d, h => by simp [zipD] at h
  | x :: r, y :: s, 0, d, h => by
    simp [zipD] at h
    exact ⟨x, y, rfl, rfl, h.symm⟩
  | x :: r, y :: s, i + 1, d, h => by
    obtain ⟨x', y', h1, h2, h3⟩ := zipD_get r s i d (by simpa [zipD] using h)
    exact ⟨x', y', h1, h2, h3⟩
theorem zipD_len : ∀ (ds es : List D), (zipD ds es).length = min ds.length es.length
  | [], _ => by simp [zipD]
  | _ :: _, [] => by simp [zipD]
  | x :: r, y :: s => by
    simp only [zipD, List.length_cons, zipD_len r s]
    omega
theorem wlk_zip {K : PySem.W.Frag} {a b : Addr} {xs ys : List V} {ds es : List D} {Bh F1 : Hp} (h : SqL K F1 a xs ∨ SqL K Bh a xs) (r : Reps K F1 xs ds) (h' : SqL K F1 b ys ∨ SqL K Bh b ys) (r' : Reps K F1 ys es) : Wlk K (Itz K a b) (zipD ds es) Bh F1 := by
  intro i F H s1 s2 s3
  have hq : SqL K H a xs := h.elim (fun q => s3.seq (s1.seq q)) (fun q => s2.seq q)
  have hq' : SqL K H b ys := h'.elim (fun q => s3.seq (s1.seq q)) (fun q => s2.seq q)
  refine ⟨fun d hd => ?_, fun hi => ⟨xs, ys, hq, hq', ?_⟩⟩
  · obtain ⟨x, y, h1, h2, rfl⟩ := zipD_get _ _ _ _ hd
    obtain ⟨v, hv, rv⟩ := r.get h1
    obtain ⟨w, hw, rw'⟩ := r'.get h2
    refine ⟨⟨xs, ys, v, w, hq, hq', hv, hw⟩, fun z H' hy => ?_⟩
    obtain ⟨T, x1, x2, rfl, hT, rfl, fv, fw⟩ := hy
    have e1 := fv xs hq
    rw [hv] at e1
    cases e1
    have e2 := fw ys hq'
    rw [hw] at e2
    cases e2
    exact ⟨_, .new s3 hT, .tup (.inl (.inl upd_same)) (.cons ((rv.up s1).up (Ext.new s3 hT).f) (.cons ((rw'.up s1).up (Ext.new s3 hT).f) .nil))⟩
  · rw [zipD_len] at hi
    rw [r.length, r'.length]
    omega
inductive Lst (K : PySem.W.Frag) (B : Bs) (F : Hp) : V → D → Prop
  | lst {a : Addr} {xs : List V} {ds : List D} : (SqL K F a xs ∨ SqL K B.hp a xs) → Reps K F xs ds → Lst K B F (.ref a) (.lst ds)
  | tup {a : Addr} {xs : List V} {ds : List D} : SqT K F a xs → Reps K F xs ds → Lst K B F (.ref a) (.tup ds)
  | str {x : Str} : Lst K B F (.str x) (.str x)
def okW : D → Bool
  | .lst _ => true | .tup _ => true | .str _ => true | _ => false
/-- an expression that is walked (or a part of what is): its reading by what lasts -/
def PostW (K : PySem.W.Frag) (mg : Str → Option Value) (B : Bs) (F H : Hp) (Q : VK) (W : XW) : R → Prop
  | .ok d => okW d = true ∧ ∀ v F' H', Ext F H F' H' → Lst K B F' v d → Q v H'
  | .exc c ns ds => ∀ cls dd F' H', Ext F H F' H' → XOk K mg c ns ds cls dd F' H' → W cls dd H'
  | .bad => False
def cW (K : PySem.W.Frag) (mg : Str → Option Value) (W : WX) (o l : List Nat) (m : Sl → R) : TE := fun σ H Q => ∃ ρ B F, Rl K o l ρ σ B F H ∧ PostW K mg B F H Q (fun c d H' => W c d σ H') (m ρ)
theorem w_of (h : PE X e (cE X.K X.mg W o l m)) : PE X e (cW X.K X.mg W o l m) := PE.sub h fun σ H Q hh => by
  obtain ⟨ρ, B, F, r, p⟩ := hh
  refine ⟨ρ, B, F, r, ?_⟩
  cases er : m ρ with
  | ok d =>
    rw [er] at p
    obtain ⟨hw, p⟩ := p
    intro v F' H' x q
    refine p v F' H' x ?_
    cases q with
    | lst q1 q2 => exact .lst (.inl q1) q2
    | tup q1 q2 => exact .tup q1 q2
    | str y => exact .str
    | _ => cases hw
  | exc c ns ds => rw [er] at p; exact p
  | bad => rw [er] at p; exact p
theorem w_loan (i : Nat) {x : Str} (hN : X.N[i]? = some x := by rfl) (hv : Vis X.env.scope x := by first | exact Or.inl rfl | exact Or.inr (Or.inl rfl) | exact Or.inr (Or.inr rfl)) (hd : (x == ("__debug__" : Str)) = false := by decide)
    (hcd : (x == ("__classdict__" : Str)) = false := by decide) (ho : i ∈ l := by decide) : PE X (.Name x pos) (cW X.K X.mg W o l (eVar i)) := by
  refine PE.sub (pe_var hN hv hd hcd) fun σ H Q h => ?_
  obtain ⟨ρ, B, F, r, p⟩ := h
  unfold eVar at p
  split at p
  · rename_i d hd'
    obtain ⟨d0, e0, e1, e2, e4⟩ := r.loan i ho
    rw [hd'] at e0
    cases e0
    obtain ⟨hw, p⟩ := p
    refine ⟨_, e1, ?_⟩
    cases d with
    | lst ds =>
      obtain ⟨vs, h1, h2⟩ := e4
      exact p _ F H (.refl r.fh) (.lst (.inr (.inl (.inl h1))) h2)
    | dic ks vs => exact nomatch hw
    | _ => exact False.elim e4
  · exact p.elim
/-! ### what is walked -/
theorem i_any {tg : Expr} (h : PE X e (cW X.K X.mg W o l m)) : PI X tg e (cI X.K X.mg W o l (iOf m)) := by
  refine PI.sub (PI.or (pi_list h) (PI.or (pi_tup h) (pi_str h))) fun σ H Q hh => ?_
  obtain ⟨ρ, B, F, r, p⟩ := hh
  unfold iOf at p
  cases er : m ρ with
  | ok d =>
    rw [er] at p
    have p : PostI X.K X.mg B F H Q (fun c d H' => W c d σ H') (dIt d) := p
    cases d with
    | lst ds =>
      refine .inl ⟨ρ, B, F, r, ?_⟩
      rw [er]
      refine ⟨rfl, fun v F' H' x q => ?_⟩
      cases q with
      | lst q1 q2 => exact ⟨_, rfl, ⟨_, q1.elim (fun q => x.s.seq q) (fun q => (r.ext x).bh.seq q)⟩, p _ F' H' x (wlk_list q1 q2)⟩
    | tup ds =>
      refine .inr (.inl ⟨ρ, B, F, r, ?_⟩)
      rw [er]
      refine ⟨rfl, fun v F' H' x q => ?_⟩
      cases q with
      | tup q1 q2 => exact ⟨_, rfl, ⟨_, Same.sqt x.s q1⟩, p _ F' H' x (wlk_tup q1 q2)⟩
    | str y =>
      refine .inr (.inr ⟨ρ, B, F, r, ?_⟩)
      rw [er]
      refine ⟨rfl, fun v F' H' x q => ?_⟩
      cases q with
      | str => exact ⟨_, rfl, p _ F' H' x wlk_str⟩
    | _ => exact p.elim
  | exc c ns ds =>
    rw [er] at p
    refine .inl ⟨ρ, B, F, r, ?_⟩
    rw [er]
    exact p
  | bad => rw [er] at p; exact p.elim
def small62 (i : Int) : Bool := decide (-(2 ^ 62) ≤ i) && decide (i < 2 ^ 62)
def rngD (lo : Int) (n : Nat) : List D := (List.range n).map fun k => D.int (lo + (k : Nat))
def iRan1 : List D → Rs (List D)
  | [.int j] => if small62 j then .ok (rngD 0 j.toNat) else .bad
  | _ => .bad
def iRan2 : List D → Rs (List D)
  | [.int i, .int j] => if small62 i && small62 j then .ok (rngD i (j - i).toNat) else .bad
  | _ => .bad
def iEn : List D → Rs (List D)
  | [.lst ds] => .ok (enumD 0 ds)
  | _ => .bad
def iZp : List D → Rs (List D)
  | [.lst ds, .lst es] => .ok (zipD ds es)
  | _ => .bad
def iCall (f : List D → Rs (List D)) (ms : Sl → Rs (List D)) (ρ : Sl) : Rs (List D) := (ms ρ).bind f
def CalmI (f : List D → Rs (List D)) : Prop := ∀ d c ns ds, f d ≠ .exc c ns ds
theorem calm_ran1 : CalmI iRan1 := fun d c ns ds h => by
  unfold iRan1 at h
  split at h
  · split at h <;> cases h
  · cases h
theorem calm_ran2 : CalmI iRan2 := fun d c ns ds h => by
  unfold iRan2 at h
  split at h
  · split at h <;> cases h
  · cases h
theorem calm_en : CalmI iEn := fun d c ns ds h => by unfold iEn at h; split at h <;> cases h
theorem calm_zp : CalmI iZp := fun d c ns ds h => by unfold iZp at h; split at h <;> cases h
theorem cA.toI {σ : St} {H : Hp} {ρ : Sl} {B : Bs} {F : Hp} {k : List D → Rs (List D)} {R' : It → Hp → Prop} {Q' : List V → Hp → Prop}
    (r : Rl X.K o l ρ σ B F H) (p : PostI X.K X.mg B F H R' (fun c d H' => W c d σ H') (iCall k ms ρ)) (hc : CalmI k)
    (h : ∀ d ds v F' H', k d = .ok ds → Ext F H F' H' → Rl X.K o l ρ σ B F' H' → Reps X.K F' v d → (∀ J F2 H2, Ext F' H' F2 H2 → Wlk X.K J ds B.hp F2 → R' J H2) → Q' v H') : cA X.K X.mg W o l ms σ H Q' := by
  refine ⟨ρ, B, F, r, ?_⟩
  unfold iCall at p
  cases e : ms ρ with
  | ok d =>
    rw [e] at p
    have p : PostI X.K X.mg B F H R' (fun c d H' => W c d σ H') (k d) := p
    intro v F' H' x q
    cases e2 : k d with
    | ok ds =>
      rw [e2] at p
      exact h d ds v F' H' e2 x (r.ext x) q fun J F2 H2 x2 w => p J F2 H2 (x.trans x2) w
    | exc c ns ds => exact absurd e2 (hc _ _ _ _)
    | bad => rw [e2] at p; exact p.elim
  | exc c ns ds => rw [e] at p; exact p
  | bad => rw [e] at p; exact p
theorem i_range1 {tg : Expr} (hm : X.mg "range" = none) (ha : PA X [a] (cA X.K X.mg W o l ms)) (hg : Gl X "range" := by rfl) (hs : starEach [a] X.env = [(false, eval a X.env)] := by rfl) : PI X tg (.Call (.Name "range" p) [a] [] pos) (cI X.K X.mg W o l (iCall iRan1 ms)) := by
  refine PI.sub (pi_range1 hg hm ha hs) fun σ H Q hh => ?_
  obtain ⟨ρ, B, F, r, q⟩ := hh
  refine cA.toI r q calm_ran1 fun d ds vs F1 H1 e x1 r1 q1 p1 => ?_
  unfold iRan1 at e
  split at e
  · split at e
    · rename_i hz
      cases e
      cases q1 with
      | cons q1 q2 =>
        cases q1
        cases q2
        unfold small62 at hz
        rw [Bool.and_eq_true] at hz
        exact ⟨_, rfl, of_decide_eq_true hz.1, of_decide_eq_true hz.2, p1 _ F1 H1 (.refl x1.s) wlk_range⟩
    · cases e
  · cases e
theorem i_range2 {tg : Expr} (hm : X.mg "range" = none) (ha : PA X [a, b] (cA X.K X.mg W o l ms)) (hg : Gl X "range" := by rfl) (hs : starEach [a, b] X.env = [(false, eval a X.env), (false, eval b X.env)] := by rfl) (hs2 : starEach [b] X.env = [(false, eval b X.env)] := by rfl) : PI X tg (.Call (.Name "range" p) [a, b] [] pos) (cI X.K X.mg W o l (iCall iRan2 ms)) := by
  refine PI.sub (pi_range2 hg hm ha hs hs2) fun σ H Q hh => ?_
  obtain ⟨ρ, B, F, r, q⟩ := hh
  refine cA.toI r q calm_ran2 fun d ds vs F1 H1 e x1 r1 q1 p1 => ?_
  unfold iRan2 at e
  split at e
  · split at e
    · rename_i hz
      cases e
      cases q1 with
      | cons q1 q2 =>
        cases q2 with
        | cons q2 q3 =>
          cases q1
          cases q2
          cases q3
          unfold small62 at hz
          simp only [Bool.and_eq_true] at hz
          exact ⟨_, _, rfl, ⟨of_decide_eq_true hz.1.1, of_decide_eq_true hz.1.2, of_decide_eq_true hz.2.1, of_decide_eq_true hz.2.2⟩, p1 _ F1 H1 (.refl x1.s) wlk_range⟩
    · cases e
  · cases e
/-- arguments that are walked -/
def PostV (K : PySem.W.Frag) (mg : Str → Option Value) (B : Bs) (F H : Hp) (Q : List V → Hp → Prop) (W : XW) : Rs (List D) → Prop
  | .ok ds => ∀ vs F' H', Ext F H F' H' → Paired (Lst K B F') vs ds → Q vs H'
  | .exc c ns ds => ∀ cls dd F' H', Ext F H F' H' → XOk K mg c ns ds cls dd F' H' → W cls dd H'
  | .bad => False
def cV (K : PySem.W.Frag) (mg : Str → Option Value) (W : WX) (o l : List Nat) (m : Sl → Rs (List D)) : TA := fun σ H Q => ∃ ρ B F, Rl K o l ρ σ B F H ∧ PostV K mg B F H Q (fun c d H' => W c d σ H') (m ρ)
theorem Lst.up {K : PySem.W.Frag} {B : Bs} {F F' : Hp} {v : V} {d : D} (s : Same F F') (h : Lst K B F v d) : Lst K B F' v d := by
  cases h with
  | lst h1 h2 => exact .lst (h1.imp (fun q => s.seq q) id) (h2.up s)
  | tup h1 h2 => exact .tup (Same.sqt s h1) (h2.up s)
  | str => exact .str
theorem v_nil : PA X [] (cV X.K X.mg W o l aNil) := PA.sub pa_nil fun σ H Q hh => by
  obtain ⟨ρ, B, F, r, p⟩ := hh
  exact p [] F H (.refl r.fh) .nil
def aConsW (m : Sl → R) (ms : Sl → Rs (List D)) (ρ : Sl) : Rs (List D) := (m ρ).bind fun x => if okW x then (ms ρ).bind fun xs => .ok (x :: xs) else .bad
theorem v_cons (ha : PE X e (cW X.K X.mg W o l m)) (hr : PA X es (cV X.K X.mg W o l ms)) (hs : starEach (e :: es) X.env = (false, eval e X.env) :: starEach es X.env := by rfl) : PA X (e :: es) (cV X.K X.mg W o l (aConsW m ms)) := by
  refine PA.sub (pa_cons ha hr hs) fun σ H Q hh => ?_
  obtain ⟨ρ, B, F, r, p⟩ := hh
  refine ⟨ρ, B, F, r, ?_⟩
  unfold aConsW at p
  cases er : m ρ with
  | ok d =>
    rw [er] at p
    have p : PostV X.K X.mg B F H Q (fun c d H' => W c d σ H') (if okW d then (ms ρ).bind fun xs => .ok (d :: xs) else .bad) := p
    by_cases hd : okW d = true
    · rw [if_pos hd] at p
      refine ⟨hd, fun v F1 H1 x1 q1 => ⟨ρ, B, F1, r.ext x1, ?_⟩⟩
      cases er2 : ms ρ with
      | ok ds =>
        rw [er2] at p
        exact fun vs F2 H2 x2 q2 => p _ F2 H2 (x1.trans x2) (.cons (q1.up x2.f) q2)
      | exc c ns ds =>
        rw [er2] at p
        exact fun cls dd F2 H2 x2 => p cls dd F2 H2 (x1.trans x2)
      | bad => rw [er2] at p; exact p
    · rw [if_neg hd] at p
      exact p.elim
  | exc c ns ds => rw [er] at p; exact p
  | bad => rw [er] at p; exact p
theorem cV.toI {σ : St} {H : Hp} {ρ : Sl} {B : Bs} {F : Hp} {k : List D → Rs (List D)} {R' : It → Hp → Prop} {Q' : List V → Hp → Prop}
    (r : Rl X.K o l ρ σ B F H) (p : PostI X.K X.mg B F H R' (fun c d H' => W c d σ H') (iCall k ms ρ)) (hc : CalmI k)
    (h : ∀ d ds v F' H', k d = .ok ds → Ext F H F' H' → Rl X.K o l ρ σ B F' H' → Paired (Lst X.K B F') v d → (∀ J F2 H2, Ext F' H' F2 H2 → Wlk X.K J ds B.hp F2 → R' J H2) → Q' v H') : cV X.K X.mg W o l ms σ H Q' := by
  refine ⟨ρ, B, F, r, ?_⟩
  unfold iCall at p
  cases e : ms ρ with
  | ok d =>
    rw [e] at p
    have p : PostI X.K X.mg B F H R' (fun c d H' => W c d σ H') (k d) := p
    intro v F' H' x q
    cases e2 : k d with
    | ok ds =>
      rw [e2] at p
      exact h d ds v F' H' e2 x (r.ext x) q fun J F2 H2 x2 w => p J F2 H2 (x.trans x2) w
    | exc c ns ds => exact absurd e2 (hc _ _ _ _)
    | bad => rw [e2] at p; exact p.elim
  | exc c ns ds => rw [e] at p; exact p
  | bad => rw [e] at p; exact p
theorem i_enum {elts : List Expr} {kk : Nat} {tpos : Pos} (hm : X.mg "enumerate" = none) (ha : PA X [a] (cV X.K X.mg W o l ms)) (hg : Gl X "enumerate" := by rfl) (hs : starEach [a] X.env = [(false, eval a X.env)] := by rfl) : PI X (.Tuple elts kk tpos) (.Call (.Name "enumerate" p) [a] [] pos) (cI X.K X.mg W o l (iCall iEn ms)) := by
  refine PI.sub (pi_enum hg hm ha hs) fun σ H Q hh => ?_
  obtain ⟨ρ, B, F, r, q⟩ := hh
  refine cV.toI r q calm_en fun d ds vs F1 H1 e x1 r1 q1 p1 => ?_
  unfold iEn at e
  split at e
  · cases e
    cases q1 with
    | cons q1 q2 =>
      cases q2
      cases q1 with
      | lst h1 h2 => exact ⟨_, _, rfl, h1.elim (fun q => x1.s.seq q) (fun q => r1.bh.seq q), p1 _ F1 H1 (.refl x1.s) (wlk_enum h1 h2)⟩
  · cases e
theorem i_zip {elts : List Expr} {kk : Nat} {tpos : Pos} (hm : X.mg "zip" = none) (ha : PA X [a, b] (cV X.K X.mg W o l ms)) (hg : Gl X "zip" := by rfl) (hs : starEach [a, b] X.env = (false, eval a X.env) :: starEach [b] X.env := by rfl) (hpl : (backTo pos (starEach [b] X.env)).any (·.1) = false := by rfl) :
    PI X (.Tuple elts kk tpos) (.Call (.Name "zip" p) [a, b] [] pos) (cI X.K X.mg W o l (iCall iZp ms)) := by
  refine PI.sub (pi_zip hg hm ha hs hpl) fun σ H Q hh => ?_
  obtain ⟨ρ, B, F, r, q⟩ := hh
  refine cV.toI r q calm_zp fun d ds vs F1 H1 e x1 r1 q1 p1 => ?_
  unfold iZp at e
  split at e
  · cases e
    cases q1 with
    | cons q1 q2 =>
      cases q2 with
      | cons q2 q3 =>
        cases q3
        cases q1 with
        | lst h1 h2 =>
          cases q2 with
          | lst h3 h4 => exact ⟨_, _, _, _, rfl, h1.elim (fun q => x1.s.seq q) (fun q => r1.bh.seq q), h3.elim (fun q => x1.s.seq q) (fun q => r1.bh.seq q), p1 _ F1 H1 (.refl x1.s) (wlk_zip h1 h2 h3 h4)⟩
  · cases e

/-! ### for -/
def forL (g : D → Sl → Option Sl) (mb : Sl → Out) : List D → Sl → Out
  | [], ρ => .nx ρ
  | d :: r, ρ => match g d ρ with
    | none => .bad
    | some ρ1 => match mb ρ1 with
      | .nx ρ2 => forL g mb r ρ2
      | .cont ρ2 => forL g mb r ρ2
      | .brk ρ2 => .nx ρ2
      | .ret d => .ret d
      | .exc c ns ds ρ2 => .exc c ns ds ρ2
      | .bad => .bad
def sFor (mi : Sl → Rs (List D)) (g : D → Sl → Option Sl) (mb : Sl → Out) (ρ : Sl) : Out := match mi ρ with
  | .ok ds => forL g mb ds ρ
  | .exc c ns ds => .exc c ns ds ρ
  | .bad => .bad
theorem Kp.trans {F0 F F' : Hp} {B : Bs} (a : Kp F0 B F) (b : Kp F B F') : Kp F0 B F' := ⟨a.f.trans b.f, fun c o e => (b.n c o e).elim (fun q => a.n c o q) .inr⟩
theorem PostS.base {K : PySem.W.Frag} {mg : Str → Option Value} {F0 F : Hp} {B : Bs} {Dn : Ends} (k : Kp F0 B F) : ∀ {r : Out}, PostS K mg W oc o1 l F0 B Dn r → PostS K mg W oc o1 l F B Dn r
  | .nx ρ, p => fun σ F' H r' k' => p σ F' H r' (k.trans k')
  | .ret d, p => fun v F' H q s b k' => p v F' H q s b (k.trans k')
  | .brk ρ, p => fun σ F' H r' k' => p σ F' H r' (k.trans k')
  | .cont ρ, p => fun σ F' H r' k' => p σ F' H r' (k.trans k')
  | .exc c ns ds ρ, p => fun cls dd σ F' H r' k' => p cls dd σ F' H r' (k.trans k')
theorem Kp.refl {F : Hp} {B : Bs} : Kp F B F := ⟨.refl _, fun _ _ e => .inl e⟩
theorem s_for {tg it : Expr} {body : List Stmt} {mi : Sl → Rs (List D)} {g : D → Sl → Option Sl} {mb : Sl → Out} (hp : PassesOwn (model X.prog X.w) X.A X.env X.xe) (hc : X.calm = true) (hi : PI X tg it (cI X.K X.mg W o l mi)) (hg : PG X tg (cG X.K o o1 l g)) (hb : PSs X body (cS X.K X.mg W o o1 o l mb))
    (hs : ∀ x, foldedSetIterable it X.env x = pure x := by intro _; rfl) : PS X (.For tg it body [] pos) (cS X.K X.mg W oc o o l (sFor mi g mb)) := by
  refine PS.sub (ps_for hp hc hi hg hb hs) fun Dn σ H hh => ?_
  obtain ⟨ρ, B, F0, F, r, k, p⟩ := hh
  refine ⟨ρ, B, F, r, ?_⟩
  unfold sFor at p
  cases ei : mi ρ with
  | ok ds =>
    rw [ei] at p
    have p : PostS X.K X.mg W oc o l F0 B Dn (forL g mb ds ρ) := p
    intro J F1 H1 x1 wk
    have k1 := k.ext r.bh x1
    refine ⟨fun i n σ' H' => n = ds.length - i ∧ ∃ ρ' F', Rl X.K o l ρ' σ' B F' H' ∧ Kp F1 B F' ∧ PostS X.K X.mg W oc o l F0 B Dn (forL g mb (ds.drop i) ρ'), ⟨ds.length, rfl, ρ, F1, r.ext x1, .refl, p⟩, ?_⟩
    rintro i n σ2 H2 ⟨hn, ρ2, F2, r2, k2, p2⟩
    obtain ⟨w1, w2⟩ := wk i F2 H2 k2.f r2.bh r2.fh
    by_cases hi' : i < ds.length
    · refine .inr ?_
      obtain ⟨g1, g2⟩ := w1 ds[i] (List.getElem?_eq_getElem hi')
      refine ⟨g1, fun σ' H' => ∃ ρ' F', Rl X.K o l ρ' σ' B F' H' ∧ Kp F1 B F' ∧ PostS X.K X.mg W oc o l F0 B Dn (forL g mb (ds.drop (i + 1)) ρ'), fun σ' H' hN => ⟨ds.length - (i + 1), by omega, rfl, hN⟩, fun x H3 hy => ?_⟩
      obtain ⟨F3, x3, q3⟩ := g2 x H3 hy
      rw [List.drop_eq_getElem_cons hi'] at p2
      unfold forL at p2
      refine ⟨ρ2, B, F3, ds[i], r2.ext x3, q3, ?_⟩
      cases eg : g ds[i] ρ2 with
      | none => rw [eg] at p2; exact p2.elim
      | some ρ3 =>
        rw [eg] at p2
        refine ⟨ρ3, rfl, fun σ3 r3 => ?_⟩
        have k3 := k2.ext r2.bh x3
        refine ⟨ρ3, B, F3, F3, r3, .refl, ?_⟩
        have k03 : Kp F0 B F3 := k1.trans k3
        dsimp only at p2
        cases em : mb ρ3 with
        | nx ρ4 => rw [em] at p2; exact fun σ4 F4 H4 r4 k4 => ⟨ρ4, F4, r4, k3.trans k4, p2⟩
        | cont ρ4 => rw [em] at p2; exact fun σ4 F4 H4 r4 k4 => ⟨ρ4, F4, r4, k3.trans k4, p2⟩
        | brk ρ4 => rw [em] at p2; exact fun σ4 F4 H4 r4 k4 => p2 σ4 F4 H4 r4 (k03.trans k4)
        | ret d => rw [em] at p2; exact fun v F4 H4 q s b k4 => p2 v F4 H4 q s b (k03.trans k4)
        | exc c ns ds ρ4 => rw [em] at p2; exact fun cls dd σ4 F4 H4 r4 k4 => p2 cls dd σ4 F4 H4 r4 (k03.trans k4)
        | bad => rw [em] at p2; exact p2.elim
    · refine .inl ⟨w2 (by omega), ?_⟩
      rw [List.drop_eq_nil_of_le (by omega)] at p2
      exact p2 σ2 F2 H2 r2 (k1.trans k2)
  | exc c ns ds => rw [ei] at p; exact excS r k p
  | bad => rw [ei] at p; exact p
/-! ### while -/
def whN (c : Sl → Rs Bool) (b : Sl → Out) : Nat → Sl → Option Out
  | 0, _ => none
  | n + 1, ρ => match c ρ with
    | .ok true => match b ρ with
      | .nx ρ' => whN c b n ρ'
      | .cont ρ' => whN c b n ρ'
      | .brk ρ' => some (.nx ρ')
      | .ret d => some (.ret d)
      | .exc c ns ds ρ' => some (.exc c ns ds ρ')
      | .bad => some .bad
    | .ok false => some (.nx ρ)
    | .exc c ns ds => some (.exc c ns ds ρ)
    | .bad => some .bad
open Classical in
noncomputable def sWhile (c : Sl → Rs Bool) (b : Sl → Out) (ρ : Sl) : Out := if h : ∃ n x, whN c b n ρ = some x then Classical.choose (Classical.choose_spec h) else .bad
theorem whN_more {c : Sl → Rs Bool} {b : Sl → Out} : ∀ {n : Nat} {ρ : Sl} {x : Out}, whN c b n ρ = some x → ∀ k, whN c b (n + k) ρ = some x
  | 0, _, _, h, _ => by cases h
  | n + 1, ρ, x, h, k => by
    rw [show n + 1 + k = (n + k) + 1 by omega]
    unfold whN at h ⊢
    split at h
    · split at h
      · exact whN_more h k
      · exact whN_more h k
      · exact h
      · exact h
      · exact h
      · exact h
    · exact h
    · exact h
    · exact h
theorem sWhile_of {c : Sl → Rs Bool} {b : Sl → Out} {n : Nat} {ρ : Sl} {x : Out} (h : whN c b n ρ = some x) : sWhile c b ρ = x := by
  have hx : ∃ n x, whN c b n ρ = some x := ⟨n, x, h⟩
  unfold sWhile
  rw [dif_pos hx]
  have h2 := Classical.choose_spec (Classical.choose_spec hx)
  have h3 := whN_more h2 n
  have h4 := whN_more h (Classical.choose hx)
  rw [Nat.add_comm] at h4
  exact Option.some.inj (h3.symm.trans h4)
theorem sWhile_bad {c : Sl → Rs Bool} {b : Sl → Out} {ρ : Sl} (h : ¬ ∃ n x, whN c b n ρ = some x) : sWhile c b ρ = .bad := by
  unfold sWhile
  rw [dif_neg h]
/-- one turn -/
theorem sWhile_eq (c : Sl → Rs Bool) (b : Sl → Out) (ρ : Sl) : sWhile c b ρ = match c ρ with
    | .ok true => match b ρ with
      | .nx ρ' => sWhile c b ρ'
      | .cont ρ' => sWhile c b ρ'
      | .brk ρ' => .nx ρ'
      | .ret d => .ret d
      | .exc c ns ds ρ' => .exc c ns ds ρ'
      | .bad => .bad
    | .ok false => .nx ρ
    | .exc c ns ds => .exc c ns ds ρ
    | .bad => .bad := by
  have go : ∀ ρ', (∀ n, whN c b (n + 1) ρ = whN c b n ρ') → sWhile c b ρ = sWhile c b ρ' := fun ρ' hn => by
    by_cases hx : ∃ n x, whN c b n ρ' = some x
    · obtain ⟨n, x, h⟩ := hx
      rw [sWhile_of h]
      exact sWhile_of (n := n + 1) (by rw [hn]; exact h)
    · rw [sWhile_bad hx]
      refine sWhile_bad fun ⟨n, x, h⟩ => ?_
      cases n with
      | zero => cases h
      | succ n => exact hx ⟨n, x, by rw [← hn]; exact h⟩
  cases ec : c ρ with
  | ok t =>
    cases t with
    | true =>
      cases eb : b ρ with
      | nx ρ' => exact go ρ' fun n => by simp only [whN, ec, eb]
      | cont ρ' => exact go ρ' fun n => by simp only [whN, ec, eb]
      | brk ρ' => exact sWhile_of (n := 1) (by simp only [whN, ec, eb])
      | ret d => exact sWhile_of (n := 1) (by simp only [whN, ec, eb])
      | exc c ns ds ρ' => exact sWhile_of (n := 1) (by simp only [whN, ec, eb])
      | bad => exact sWhile_of (n := 1) (by simp only [whN, ec, eb])
    | false => exact sWhile_of (n := 1) (by simp only [whN, ec])
  | exc c ns ds => exact sWhile_of (n := 1) (by simp only [whN, ec])
  | bad => exact sWhile_of (n := 1) (by simp only [whN, ec])
theorem s_while {tc : Sl → Rs Bool} {body : List Stmt} {mb : Sl → Out} (hp : PassesOwn (model X.prog X.w) X.A X.env X.xe) (hc : PT X c (cT X.K X.mg W o l tc)) (hb : PSs X body (cS X.K X.mg W o o o l mb)) : PS X (.While c body [] pos) (cS X.K X.mg W oc o o l (sWhile tc mb)) := by
  refine PS.sub (ps_while hp hc hb) fun Dn σ H hh => ?_
  obtain ⟨ρ, B, F0, F, r, k, p⟩ := hh
  by_cases hx : ∃ n x, whN tc mb n ρ = some x
  · obtain ⟨n0, x0, h0⟩ := hx
    rw [sWhile_of h0] at p
    refine ⟨fun n σ' H' => ∃ ρ' F', Rl X.K o l ρ' σ' B F' H' ∧ Kp F0 B F' ∧ whN tc mb n ρ' = some x0, ⟨n0, ρ, F, r, k, h0⟩, ?_⟩
    rintro n σ2 H2 ⟨ρ2, F2, r2, k2, h2⟩
    refine ⟨ρ2, B, F2, r2, ?_⟩
    cases n with
    | zero => cases h2
    | succ n =>
      unfold whN at h2
      cases ec : tc ρ2 with
      | ok t =>
        rw [ec] at h2
        cases t with
        | true =>
          dsimp only at h2
          intro F3 H3 x3
          refine iteT ?_
          refine ⟨fun σ' H' => ∃ ρ' F', Rl X.K o l ρ' σ' B F' H' ∧ Kp F0 B F' ∧ whN tc mb n ρ' = some x0, fun σ' H' hN => ⟨n, Nat.lt_succ_self _, hN⟩, ρ2, B, F0, F3, r2.ext x3, k2.ext r2.bh x3, ?_⟩
          cases eb : mb ρ2 with
          | nx ρ4 => rw [eb] at h2; exact fun σ4 F4 H4 r4 k4 => ⟨ρ4, F4, r4, k4, h2⟩
          | cont ρ4 => rw [eb] at h2; exact fun σ4 F4 H4 r4 k4 => ⟨ρ4, F4, r4, k4, h2⟩
          | brk ρ4 => rw [eb] at h2; cases h2; exact fun σ4 F4 H4 r4 k4 => p σ4 F4 H4 r4 k4
          | ret d => rw [eb] at h2; cases h2; exact p
          | exc c ns ds ρ4 => rw [eb] at h2; cases h2; exact p
          | bad => rw [eb] at h2; cases h2; exact p
        | false =>
          cases h2
          intro F3 H3 x3
          exact iteF (p σ2 F3 H3 (r2.ext x3) (k2.ext r2.bh x3))
      | exc c ns ds => rw [ec] at h2; cases h2; exact excS r2 k2 p
      | bad => rw [ec] at h2; cases h2; exact p
  · rw [sWhile_bad hx] at p
    exact p.elim
/-! ### a slot lends its list to a statement, to an expression -/
def NoBC (m : Sl → Out) : Prop := ∀ ρ ρ', m ρ ≠ .brk ρ' ∧ m ρ ≠ .cont ρ'
theorem forL_noBC (g : D → Sl → Option Sl) (mb : Sl → Out) : ∀ (ds : List D) (ρ ρ' : Sl), forL g mb ds ρ ≠ .brk ρ' ∧ forL g mb ds ρ ≠ .cont ρ'
  | [], ρ, ρ' => ⟨fun h => (nomatch h), fun h => (nomatch h)⟩
  | d :: r, ρ, ρ' => by
    unfold forL
    split
    · exact ⟨fun h => (nomatch h), fun h => (nomatch h)⟩
    · split <;> first | exact forL_noBC g mb r _ ρ' | exact ⟨fun h => (nomatch h), fun h => (nomatch h)⟩
theorem for_noBC {mi : Sl → Rs (List D)} {g : D → Sl → Option Sl} {mb : Sl → Out} : NoBC (sFor mi g mb) := fun ρ ρ' => by
  unfold sFor
  split
  · exact forL_noBC g mb _ ρ ρ'
  · exact ⟨fun h => (nomatch h), fun h => (nomatch h)⟩
  · exact ⟨fun h => (nomatch h), fun h => (nomatch h)⟩
theorem lend_l {i : Nat} (h : i ∉ l) : l.filter (· ≠ i) = l := List.filter_eq_self.mpr fun j hj => by
  have : j ≠ i := fun z => h (z ▸ hj)
  simpa using this
theorem sl_none {ρ : Sl} {i : Nat} (h : ¬ ∃ d, ρ[i]? = some (some d)) : eVar i ρ = .bad := by
  unfold eVar
  split
  · rename_i d hd
    exact absurd ⟨d, hd⟩ h
  · rfl
/-- m asks slot i's value -/
def Asks (i : Nat) (m : Sl → Out) : Prop := ∀ ρ, (¬ ∃ d, ρ[i]? = some (some d)) → m ρ = .bad
theorem asks_for {i : Nat} {mi : Sl → Rs (List D)} {g : D → Sl → Option Sl} {mb : Sl → Out} (h : ∀ ρ, (¬ ∃ d, ρ[i]? = some (some d)) → mi ρ = .bad) : Asks i (sFor mi g mb) := fun ρ hρ => by
  unfold sFor
  rw [h ρ hρ]
theorem s_lend (i : Nat) (h : PS X st (cS X.K X.mg W oc o1 o2 (i :: l) m1)) (hb : NoBC m1) (ha : Asks i m1) (hi : i ∈ o := by decide) (hl : i ∉ l := by decide) (ho : o.filter (· ≠ i) = o1 := by decide) (ho2 : i ∉ o2 := by decide) (ho' : i :: o2 = o' := by decide) : PS X st (cS X.K X.mg W oc o o' l m1) := by
  refine PS.sub h fun Dn σ H hh => ?_
  subst ho
  subst ho'
  obtain ⟨ρ, B, F0, F, r, k, p⟩ := hh
  by_cases hd : ∃ d, ρ[i]? = some (some d)
  · obtain ⟨d, hd⟩ := hd
    obtain ⟨t, u, e1, e2, e3, e4, e5, r2, k2⟩ := r.lend k hi hd
    rw [lend_l hl] at r2
    have hla : ∀ j ∈ l, ∃ w, B.hp (B.la j) = some w := fun j hj => by
      obtain ⟨_, _, _, _, q⟩ := r.loan j hj
      exact Cell.has q
    have bk : ∀ {o3 : List Nat} {ρ' σ' F' H'}, i ∉ o3 → Rl X.K o3 (i :: l) ρ' σ' ⟨upd B.hp t u, fun j => if j = i then t else B.la j⟩ F' H' → Kp F0 ⟨upd B.hp t u, fun j => if j = i then t else B.la j⟩ F' → Rl X.K (i :: o3) l ρ' σ' B F' H' ∧ Kp F0 B F' := fun h3 r' k' => Rl.back hl h3 hla e2 r' k'
    have kb : ∀ {F'}, Kp F0 ⟨upd B.hp t u, fun j => if j = i then t else B.la j⟩ F' → Kp F0 B F' := fun {F'} k' => ⟨k'.f, fun b w q => (k'.n b w q).imp id fun z => by
      have z : upd B.hp t u b = none := z
      by_cases hb : b = t
      · rw [hb]; exact e2
      · rw [upd_ne hb] at z; exact z⟩
    refine ⟨ρ, _, F0, F, r2, k2, ?_⟩
    cases em : m1 ρ with
    | nx ρ' =>
      rw [em] at p
      exact fun σ' F' H' r' k' => p σ' F' H' (bk ho2 r' k').1 (bk ho2 r' k').2
    | ret d =>
      rw [em] at p
      refine fun v F' H' q s b k' => p v F' H' q s (fun c w e => b c w ?_) (kb k')
      have nc : c ≠ t := fun z => by rw [z, e2] at e; cases e
      show upd B.hp t u c = some w
      rw [upd_ne nc]; exact e
    | brk ρ' => exact absurd em (hb ρ ρ').1
    | cont ρ' => exact absurd em (hb ρ ρ').2
    | exc c ns ds ρ' =>
      rw [em] at p
      refine fun cls dd σ' F' H' r' k' q => ?_
      obtain ⟨r3, k3⟩ := bk (o3 := []) (by simp) r' k'
      obtain ⟨F4, r4, k4, s4⟩ := r3.all k3
      refine p cls dd σ' F4 H' r4 k4 ⟨q.1, ?_⟩
      rcases q.2 with q | ⟨a, ws, q1, q2, q3, q4⟩
      · exact .inl q
      · exact .inr ⟨a, ws, q1, q2, q3, q4.up s4⟩
    | bad => rw [em] at p; exact p
  · rw [ha ρ hd] at p
    exact p.elim
theorem e_lend (i : Nat) (h : PE X e (cE X.K X.mg W o1 (i :: l) m)) (ha : ∀ ρ, (¬ ∃ d, ρ[i]? = some (some d)) → m ρ = .bad) (hi : i ∈ o := by decide) (hl : i ∉ l := by decide) (ho : o.filter (· ≠ i) = o1 := by decide) : PE X e (cE X.K X.mg W o l m) := by
  refine PE.sub h fun σ H Q hh => ?_
  subst ho
  obtain ⟨ρ, B, F, r, p⟩ := hh
  by_cases hd : ∃ d, ρ[i]? = some (some d)
  · obtain ⟨d, hd⟩ := hd
    obtain ⟨t, u, e1, e2, e3, e4, e5, r2, k2⟩ := r.lend .refl hi hd
    rw [lend_l hl] at r2
    exact ⟨ρ, _, F, r2, p⟩
  · rw [ha ρ hd] at p
    exact p.elim
theorem f_lend (i : Nat) (h : PE X e (cF X.K X.mg W o1 (i :: l) m)) (ha : ∀ ρ, (¬ ∃ d, ρ[i]? = some (some d)) → m ρ = .bad) (hi : i ∈ o := by decide) (hl : i ∉ l := by decide) (ho : o.filter (· ≠ i) = o1 := by decide) : PE X e (cF X.K X.mg W o l m) := by
  refine PE.sub h fun σ H Q hh => ?_
  subst ho
  obtain ⟨ρ, B, F, r, p⟩ := hh
  by_cases hd : ∃ d, ρ[i]? = some (some d)
  · obtain ⟨d, hd⟩ := hd
    obtain ⟨t, u, e1, e2, e3, e4, e5, r2, k2⟩ := r.lend .refl hi hd
    rw [lend_l hl] at r2
    exact ⟨ρ, _, F, r2, p⟩
  · rw [ha ρ hd] at p
    exact p.elim
end
end L2.Pd

/-! Comprehensions; a def by its body; raise. -/
namespace L2.Pd
open PySem PySem.Spec PyProof.Rows
section
variable {X : Cx} {W : WX} {oc o o1 o2 o' l : List Nat} {e a b c : Expr} {es : List Expr} {st : Stmt} {rest : List Stmt} {m ma mb mc : Sl → R} {m1 m2 : Sl → Out} {ms : Sl → Rs (List D)} {pos p apos : Pos}
/-! ### comprehensions -/
def wipeD (ρ : Sl) : List Nat → Sl
  | [] => ρ
  | v :: vs => (wipeD ρ vs).set v none
theorem wipe_in {σ : St} {i : Nat} : ∀ {vs : List Nat}, i ∈ vs → (wipe σ vs)[i]? = if i < σ.length then some none else none
  | [], h => by cases h
  | v :: vs, h => by
    unfold wipe
    by_cases hv : v = i
    · subst hv
      by_cases hl : v < σ.length
      · rw [List.getElem?_set_self (by rw [wipe_length]; exact hl), if_pos hl]
      · rw [List.getElem?_eq_none (by rw [List.length_set, wipe_length]; omega), if_neg hl]
    · rw [List.getElem?_set_ne hv]
      exact wipe_in ((List.mem_cons.mp h).elim (fun z => absurd z.symm hv) id)
theorem wipeD_length (ρ : Sl) : ∀ vs : List Nat, (wipeD ρ vs).length = ρ.length
  | [] => rfl
  | v :: vs => by unfold wipeD; rw [List.length_set, wipeD_length ρ vs]
theorem wipeD_some {ρ : Sl} {i : Nat} {x : D} : ∀ {vs : List Nat}, (wipeD ρ vs)[i]? = some (some x) → ρ[i]? = some (some x) ∧ i ∉ vs
  | [], h => ⟨h, by simp⟩
  | v :: vs, h => by
    unfold wipeD at h
    by_cases hi : v = i
    · subst hi
      by_cases hv : v < (wipeD ρ vs).length
      · rw [List.getElem?_set_self hv] at h; cases h
      · rw [List.getElem?_eq_none (by simpa using hv)] at h; cases h
    · rw [List.getElem?_set_ne hi] at h
      obtain ⟨h1, h2⟩ := wipeD_some h
      exact ⟨h1, by simp only [List.mem_cons, not_or]; exact ⟨fun e => hi e.symm, h2⟩⟩
theorem wipeD_out {ρ : Sl} {i : Nat} : ∀ {vs : List Nat}, i ∉ vs → (wipeD ρ vs)[i]? = ρ[i]?
  | [], _ => rfl
  | v :: vs, h => by
    unfold wipeD
    have hv : v ≠ i := fun z => h (by rw [z]; exact List.mem_cons_self)
    rw [List.getElem?_set_ne hv]
    exact wipeD_out fun z => h (List.mem_cons_of_mem _ z)
theorem wipe_set {σ : St} {i : Nat} {y : Option V} {vs : List Nat} (h : i ∈ vs) : wipe (σ.set i y) vs = wipe σ vs := by
  refine List.ext_getElem? fun j => ?_
  by_cases hj : j ∈ vs
  · rw [wipe_in hj, wipe_in hj, List.length_set]
  · have hji : i ≠ j := fun z => hj (z ▸ h)
    rw [wipe_out hj, wipe_out hj, List.getElem?_set_ne hji]
theorem Rl.wipe {K : PySem.W.Frag} {ρ : Sl} {σ : St} {B : Bs} {F H : Hp} {vs : List Nat} (r : Rl K o l ρ σ B F H) (hl : ∀ v ∈ vs, v ∉ l) : Rl K o l (wipeD ρ vs) (L2.wipe σ vs) B F H := by
  refine ⟨by rw [wipe_length, wipeD_length]; exact r.len, r.fh, r.bh, fun i d h1 h2 e => ?_, fun i hi d e => ?_, fun i hi => ?_, fun i hi j hj hij d e q h1 h2 h3 => ?_⟩
  · obtain ⟨e', hn⟩ := wipeD_some e
    obtain ⟨v, q1, q2⟩ := r.val i d h1 h2 e'
    exact ⟨v, by rw [wipe_out hn]; exact q1, q2⟩
  · obtain ⟨e', hn⟩ := wipeD_some e
    obtain ⟨q, q1, q2⟩ := r.own i hi d e'
    exact ⟨q, by rw [wipe_out hn]; exact q1, q2⟩
  · obtain ⟨d, q1, q2⟩ := r.loan i hi
    have hn : i ∉ vs := fun z => hl i z hi
    exact ⟨d, by rw [wipeD_out hn]; exact q1, by rw [wipe_out hn]; exact q2⟩
  · obtain ⟨e1, n1⟩ := wipeD_some h1
    obtain ⟨e2, n2⟩ := wipeD_some h2
    rw [wipe_out n1] at h3
    rw [wipe_out n2]
    exact r.sep i hi j hj hij d e q e1 e2 h3
/-- a comprehension's target -/
structure Tg (K : PySem.W.Frag) (vs : List Nat) (o o1 l : List Nat) (g : TG) (g' : D → Sl → Option Sl) : Prop where
  run : ∀ {ρ σ B F H v d ρ'} {Q : St → Hp → Prop}, Rl K o l ρ σ B F H → Rep K F v d → g' d ρ = some ρ' → (∀ σ', Rl K o1 l ρ' σ' B F H → wipe σ' vs = wipe σ vs → Q σ' H) → g v σ H Q
structure Tgs (K : PySem.W.Frag) (vs : List Nat) (o o1 l : List Nat) (g : TGs) (g' : List D → Sl → Option Sl) : Prop where
  run : ∀ {ρ σ B F H v d ρ'} {Q : St → Hp → Prop}, Rl K o l ρ σ B F H → Reps K F v d → g' d ρ = some ρ' → (∀ σ', Rl K o1 l ρ' σ' B F H → wipe σ' vs = wipe σ vs → Q σ' H) → g v σ H Q
theorem tg_name {K : PySem.W.Frag} {vs : List Nat} (i : Nat) (hi : i ∈ vs := by decide) (hl : i ∉ l := by decide) (ho : o.filter (· ≠ i) = o1 := by decide) : Tg K vs o o1 l (gName i) (gN i) := ⟨fun r q e k => by
  subst ho
  cases e
  exact k _ (r.set hl q) (wipe_set hi)⟩
theorem tgs_nil {K : PySem.W.Frag} {vs : List Nat} : Tgs K vs o o l gNil gsNil := ⟨fun r q e k => by
  cases q with
  | nil => cases e; exact ⟨rfl, k _ r rfl⟩
  | cons _ _ => cases e⟩
theorem tgs_cons {K : PySem.W.Frag} {vs : List Nat} {g : TG} {g' : D → Sl → Option Sl} {gs : TGs} {gs' : List D → Sl → Option Sl} (h1 : Tg K vs o o1 l g g') (h2 : Tgs K vs o1 o2 l gs gs') : Tgs K vs o o2 l (gCons g gs) (gsCons g' gs') := ⟨fun r q e k => by
  cases q with
  | nil => cases e
  | cons q1 q2 =>
    obtain ⟨ρ1, e1, e2⟩ := Option.bind_eq_some_iff.mp e
    exact ⟨_, _, rfl, h1.run r q1 e1 fun σ1 r1 w1 => h2.run r1 q2 e2 fun σ2 r2 w2 => k σ2 r2 (w2.trans w1)⟩⟩
theorem tg_tup {K : PySem.W.Frag} {vs : List Nat} {n : Nat} {gs : TGs} {gs' : List D → Sl → Option Sl} (h : Tgs K vs o o1 l gs gs') : Tg K vs o o1 l (gTup K n gs) (gT n gs') := ⟨fun {ρ σ B F H v d ρ' Q} r q e k => by
  unfold gT at e
  split at e
  · split at e
    · rename_i hl
      cases q with
      | tup q1 q2 => exact ⟨_, _, rfl, Same.sqt r.fh q1, by rw [q2.length]; exact hl, h.run r q2 e k⟩
    · cases e
  · cases e⟩
def lcL (vs : List Nat) (g : D → Sl → Option Sl) (t : Sl → Rs Bool) (m : Sl → R) (ρ : Sl) : List D → List D → R
  | [], acc => .ok (.lst acc)
  | d :: r, acc => match g d (wipeD ρ vs) with
    | none => .bad
    | some ρ2 => match t ρ2 with
      | .ok true => match m ρ2 with
        | .ok x => if sizeOkN acc.length then lcL vs g t m ρ r (acc ++ [x]) else .bad
        | _ => .bad
      | .ok false => lcL vs g t m ρ r acc
      | _ => .bad
def eLc (vs : List Nat) (mi : Sl → Rs (List D)) (g : D → Sl → Option Sl) (t : Sl → Rs Bool) (m : Sl → R) (ρ : Sl) : R := (mi ρ).bind fun ds => lcL vs g t m ρ ds []
abbrev W0 : WX := fun _ _ _ _ => False
theorem Rl.other {K : PySem.W.Frag} {ρ : Sl} {σ : St} {B : Bs} {F H : Hp} (r : Rl K o l ρ σ B F H) {t : Addr} {u : HO} (hf : F t = none) (hb : B.hp t = none) (hn : ∀ i, i ∈ o → ∀ d, ρ[i]? = some (some d) → σ[i]? ≠ some (some (.ref t))) : Rl K o l ρ σ B F (upd H t u) := by
  refine ⟨r.len, fun b w q => ?_, fun b w q => ?_, r.val, fun j hj e he => ?_, r.loan, r.sep⟩
  · rw [upd_ne (ne_of_none q hf)]; exact r.fh _ _ q
  · rw [upd_ne (ne_of_none q hb)]; exact r.bh _ _ q
  · obtain ⟨q, q1, q2, q3, q4⟩ := r.own j hj e he
    have nq : q ≠ t := fun z => hn j hj e he (by rw [← z]; exact q1)
    exact ⟨q, q1, q2, q3, Cell.up (.refl _) (fun w hw => by rw [upd_ne nq]; exact hw) q4⟩
theorem Ext.other {F H F' H' : Hp} (x : Ext F H F' H') {t : Addr} {u : HO} (hh : H t = none) (hf : F' t = none) : Ext F H F' (upd H' t u) :=
  ⟨x.f, fun b w q => by rw [upd_ne (ne_of_none q hh)]; exact x.h _ _ q, fun b w q => by rw [upd_ne (ne_of_none q hf)]; exact x.s _ _ q, x.n⟩
theorem lc_post {vs : List Nat} {mi : Sl → Rs (List D)} {g : TG} {g' : D → Sl → Option Sl} {t : Sl → Rs Bool} {σ : St} {H : Hp} {Q : VK} (tg : Tg X.K vs o o1 l g g') (hvl : ∀ v ∈ vs, v ∉ l)
    (h : cF X.K X.mg W o l (eLc vs mi g' t m) σ H Q) : tLc (cI X.K X.mg W o l mi) g (cT X.K X.mg W0 o1 l t) (cE X.K X.mg W0 o1 l m) vs σ H Q := by
  obtain ⟨ρ, B, F, r, p⟩ := h
  refine ⟨ρ, B, F, r, ?_⟩
  unfold eLc at p
  cases ei : mi ρ with
  | ok ds =>
    rw [ei] at p
    have p : PostF X.K X.mg F H Q (fun c d H' => W c d σ H') (lcL vs g' t m ρ ds []) := p
    intro J F1 H1 x1 wk D hD
    have hHD : H D = none := x1.h.free hD
    have hF1 : F1 D = none := x1.s.free hD
    have r1 := r.ext x1
    have hBD : B.hp D = none := r1.bh.free hD
    have noD : ∀ i, i ∈ o → ∀ d, ρ[i]? = some (some d) → σ[i]? ≠ some (some (.ref D)) := fun i hi d hd e => by
      obtain ⟨q, q1, _, _, q4⟩ := r1.own i hi d hd
      rw [e] at q1
      cases q1
      obtain ⟨u, hu⟩ := Cell.has q4
      rw [hD] at hu
      cases hu
    refine ⟨fun i n H' => n = ds.length - i ∧ ∃ F' xs acc, Rl X.K o l ρ σ B F' H' ∧ Ext F1 H1 F' H' ∧ H' D = some (.lst xs) ∧ F' D = none ∧ Reps X.K F' xs acc ∧ PostF X.K X.mg F H Q (fun c d H' => W c d σ H') (lcL vs g' t m ρ (ds.drop i) acc),
      ⟨ds.length, rfl, F1, [], [], r1.other hF1 hBD noD, (Ext.refl x1.s).other hD hF1, upd_same, hF1, .nil, p⟩, ?_⟩
    rintro i n H2 ⟨hn, F2, xs, acc, r2, x2, h2, f2, q2, p2⟩
    obtain ⟨w1, w2⟩ := wk i F2 H2 x2.f r2.bh r2.fh
    by_cases hi' : i < ds.length
    · refine .inr ?_
      obtain ⟨g1, g2⟩ := w1 ds[i] (List.getElem?_eq_getElem hi')
      refine ⟨g1, fun H' => ∃ F' xs acc, Rl X.K o l ρ σ B F' H' ∧ Ext F1 H1 F' H' ∧ H' D = some (.lst xs) ∧ F' D = none ∧ Reps X.K F' xs acc ∧ PostF X.K X.mg F H Q (fun c d H' => W c d σ H') (lcL vs g' t m ρ (ds.drop (i + 1)) acc),
        fun H' hN => ⟨ds.length - (i + 1), by omega, rfl, hN⟩, fun x H3 hy => ?_⟩
      obtain ⟨F3, x3, q3⟩ := g2 x H3 hy
      rw [List.drop_eq_getElem_cons hi'] at p2
      unfold lcL at p2
      cases eg : g' ds[i] (wipeD ρ vs) with
      | none => rw [eg] at p2; exact p2.elim
      | some ρ2 =>
        rw [eg] at p2
        refine tg.run ((r2.ext x3).wipe hvl) q3 eg fun σ3 r3 wσ => ⟨by rw [wσ]; exact wipe_wipe, ⟨ρ2, B, F3, r3, ?_⟩⟩
        dsimp only at p2
        cases et : t ρ2 with
        | ok bb =>
          rw [et] at p2
          intro F4 H4 x4
          cases bb with
          | true =>
            refine iteT ⟨ρ2, B, F4, r3.ext x4, ?_⟩
            dsimp only at p2
            cases em : m ρ2 with
            | ok z =>
              rw [em] at p2
              dsimp only at p2
              intro v F5 H5 x5 q5
              have xx := x3.trans (x4.trans x5)
              have h5 := xx.h _ _ h2
              have f5 := xx.out h2 f2
              by_cases hz : sizeOkN acc.length = true
              · rw [if_pos hz] at p2
                exact ⟨xs, h5, by rw [q2.length]; exact sizeOkN_lt hz, F5, _, _, (r2.ext xx).other f5 hBD noD, (x2.trans xx).other hD f5, upd_same, f5, Reps.append (q2.up xx.f) (.cons q5 .nil), p2⟩
              · rw [if_neg hz] at p2
                exact p2.elim
            | exc c ns ds => rw [em] at p2; exact p2.elim
            | bad => rw [em] at p2; exact p2.elim
          | false =>
            have xx := x3.trans x4
            exact iteF ⟨F4, xs, acc, r2.ext xx, x2.trans xx, xx.h _ _ h2, xx.out h2 f2, q2.up xx.f, p2⟩
        | exc c ns ds => rw [et] at p2; exact p2.elim
        | bad => rw [et] at p2; exact p2.elim
    · refine .inl ⟨w2 (by omega), ?_⟩
      rw [List.drop_eq_nil_of_le (by omega)] at p2
      exact p2 D F2 H2 (x1.trans x2) hHD f2 ⟨xs, h2, q2⟩
  | exc c ns ds => rw [ei] at p; exact p
  | bad => rw [ei] at p; exact p
where
  wipe_wipe : ∀ {σ : St} {vs : List Nat}, wipe (wipe σ vs) vs = wipe σ vs := fun {σ vs} => by
    refine List.ext_getElem? fun j => ?_
    by_cases hj : j ∈ vs
    · rw [wipe_in hj, wipe_in hj, wipe_length]
    · rw [wipe_out hj, wipe_out hj]
theorem f_lc {elt tg iter : Expr} {ifs : List Expr} {scope : Scope} {own : List (Str × Nat)} {mi : Sl → Rs (List D)} {g : TG} {g' : D → Sl → Option Sl} {t : Sl → Rs Bool} (hc : X.calm = true) (hN : X.N.Nodup) (hi : PI X tg iter (cI X.K X.mg W o l mi)) (ok : BlkOk X.N X.env.scope scope own)
    (hg : ∀ (s : Shared) (H : Hp) (C : Addr) (cl : List (Str × Addr)) (fp : List Addr), PG (X.blk s H scope (compEnvC scope cl C X.env) fp) tg g) (hT : Tg X.K (own.map (·.2)) o o1 l g g')
    (ht : ∀ (s : Shared) (H : Hp) (C : Addr) (cl : List (Str × Addr)) (fp : List Addr), PTs (X.blk s H scope (compEnvC scope cl C X.env) fp) ifs (cT X.K X.mg W0 o1 l t))
    (he : ∀ (s : Shared) (H : Hp) (C : Addr) (cl : List (Str × Addr)) (fp : List Addr), PE (X.blk s H scope (compEnvC scope cl C X.env) fp) elt (cE X.K X.mg W0 o1 l m)) (hvl : ∀ v ∈ own.map (·.2), v ∉ l := by decide) (hs : ∀ x, foldedSetIterable iter X.env x = pure x := by intro _; rfl) :
    PE X (.ListComp elt [⟨tg, iter, ifs, 0⟩] scope pos) (cF X.K X.mg W o l (eLc (own.map (·.2)) mi g' t m)) := PE.sub (pe_lc hc hN hi ok hg ht he hs) fun σ H Q h => lc_post hT hvl h
theorem s_lc (i : Nat) {y : Str} {py : Pos} {elt tg iter : Expr} {ifs : List Expr} {scope : Scope} {own : List (Str × Nat)} {pos spos : Pos} {mi : Sl → Rs (List D)} {g : TG} {g' : D → Sl → Option Sl} {t : Sl → Rs Bool} (hc : X.calm = true) (hN : X.N.Nodup) (hi : PI X tg iter (cI X.K X.mg W o l mi)) (ok : BlkOk X.N X.env.scope scope own)
    (hg : ∀ (s : Shared) (H : Hp) (C : Addr) (cl : List (Str × Addr)) (fp : List Addr), PG (X.blk s H scope (compEnvC scope cl C X.env) fp) tg g) (hT : Tg X.K (own.map (·.2)) o o1 l g g')
    (ht : ∀ (s : Shared) (H : Hp) (C : Addr) (cl : List (Str × Addr)) (fp : List Addr), PTs (X.blk s H scope (compEnvC scope cl C X.env) fp) ifs (cT X.K X.mg W0 o1 l t))
    (he : ∀ (s : Shared) (H : Hp) (C : Addr) (cl : List (Str × Addr)) (fp : List Addr), PE (X.blk s H scope (compEnvC scope cl C X.env) fp) elt (cE X.K X.mg W0 o1 l m))
    (hsw : swapsWith (.ListComp elt [⟨tg, iter, ifs, 0⟩] scope pos) (some (.Name y py)) spos.line X.env = pure true) (ho : i :: o.filter (· ≠ i) = o2 := by decide) (hy : X.N[i]? = some y := by rfl) (hyl : X.env.scope.names.lookup y = some .local := by rfl) (hl : i ∉ l := by decide) (hvl : ∀ v ∈ own.map (·.2), v ∉ l := by decide) (hs : ∀ x, foldedSetIterable iter X.env x = pure x := by intro _; rfl) :
    PS X (.Assign [.Name y py] (.ListComp elt [⟨tg, iter, ifs, 0⟩] scope pos) spos) (cS X.K X.mg W oc o o2 l (sSet i (eLc (own.map (·.2)) mi g' t m))) := PS.sub (ps_setLc hc hN hy hyl hsw hi ok hg ht he hs) fun Dn σ H h => by
  subst ho
  obtain ⟨ρ, B, F0, F, r, k, p⟩ := h
  exact lc_post hT hvl (cF.toS r k p fun d t F' H' _ x r' k' q1 q2 q3 p' => p' _ F' H' (r.setF x hl q1 q2 q3) k')
def tAll (_ : Sl) : Rs Bool := .ok true
theorem q_nil : PTs X [] (cT X.K X.mg W o l tAll) := ⟨fun pins s σ H Q I h => by
  obtain ⟨ρ, B, F, r, p⟩ := h
  exact pts_nil.run pins s σ H Q I (p F H (.refl r.fh))⟩
theorem q_one {t : Sl → Rs Bool} (h : PT X c (cT X.K X.mg W o l t)) : PTs X [c] (cT X.K X.mg W o l t) := pts_one h

/-! ### a def by its body -/
def Wd (E : XK) : WX := fun c d _ H => E c d H
def runB (nN np : Nat) (mb : Sl → Out) (ds : List D) : R := if ds.length = np then (match mb (ds.map some ++ List.replicate (nN - np) none) with
  | .ret d => .ok d
  | .nx _ => .ok .non
  | .exc c ns vs _ => .exc c ns vs
  | _ => .bad) else .bad
theorem runB_len {nN np : Nat} {mb : Sl → Out} : ∀ ds, ds.length ≠ np → runB nN np mb ds = .bad := fun ds h => if_neg h
theorem rl_start {K : PySem.W.Frag} {N : List Str} {vs : List V} {ds : List D} {F H : Hp} (s : Same F H) (q : Reps K F vs ds) : Rl K [] [] (ds.map some ++ List.replicate (N.length - ds.length) none) (start N vs) ⟨H, fun _ => 0⟩ F H := by
  have hl := q.length
  refine ⟨?_, s, .refl _, fun i d _ _ e => ?_, fun i hi => (nomatch hi), fun i hi => (nomatch hi), fun i hi => (nomatch hi)⟩
  · unfold start
    simp only [List.length_append, List.length_map, List.length_replicate, hl]
  · have hi : i < ds.length := by
      by_cases hi : i < ds.length
      · exact hi
      · rw [List.getElem?_append_right (by simpa using hi), List.getElem?_replicate] at e
        split at e <;> cases e
    rw [List.getElem?_append_left (by simpa using hi), List.getElem?_map] at e
    obtain ⟨d', e1, e2⟩ := Option.map_eq_some_iff.mp e
    cases e2
    obtain ⟨v, e3, e4⟩ := q.get e1
    refine ⟨v, ?_, e4⟩
    unfold start
    rw [List.getElem?_append_left (by rw [List.length_map, hl]; exact hi), List.getElem?_map, e3]
    rfl
theorem fn_mk {P : Program} {w : World} {K : PySem.W.Frag} {mg : Str → Option Value} {base : Heap} {x qual : Str} {st : Stmt} {f : Addr} {fd : FuncData} {N ps : List Str} {k : Nat} {o' : List Nat} {mb : Sl → Out} (F : Fun K x qual st f fd) (S : FnScope N ps (defScope st))
    (hb : ∀ (cdv : Value) (A : Around) (outer : List Env) (s : Shared) (H : Hp) (E : XK), Room k (A.deeper (envOfC qual (defScope st) s.heap.objs.size f cdv)) →
      PSs (cxOf (L2.CX P w) P w K mg base N qual (defScope st) f cdv A outer s H E) (defBody st) (cS K mg (Wd E) [] [] o' [] mb)) :
    FnOk P w K mg base (L2.CX P w) (k + 1) f fd ps (spOf K mg ps.length (runB N.length ps.length mb)) := by
  refine F.okX S (fun vs H Q E h => ?_) (fun cdv A outer s H vs Q E hr h => ⟨_, hb cdv A outer s H E hr, ?_⟩)
  · obtain ⟨ds, G, s, q, hl, _⟩ := h
    rw [q.length, hl]
  · obtain ⟨ds, G, sm, q, hl, p⟩ := h
    refine ⟨_, ⟨H, fun _ => 0⟩, G, G, rl_start sm q, .refl, ?_⟩
    unfold runB at p
    rw [if_pos hl] at p
    rw [hl]
    cases em : mb (ds.map some ++ List.replicate (N.length - ps.length) none) with
    | nx ρ =>
      rw [em] at p
      exact fun σ F' H' r k' => p .non F' H' ⟨k'.f, r.bh, r.fh, k'.n⟩ .non
    | ret d =>
      rw [em] at p
      exact fun v F' H' q s b k' => p v F' H' ⟨k'.f, b, s, k'.n⟩ q
    | brk ρ => rw [em] at p; exact p.elim
    | cont ρ => rw [em] at p; exact p.elim
    | exc c ns vs ρ =>
      rw [em] at p
      exact fun cls dd σ F' H' r k' q => p cls dd F' H' ⟨k'.f, r.bh, r.fh, k'.n⟩ q
    | bad => rw [em] at p; exact p.elim
/-! ### raise -/
def sRaise (c : Str) (ρ : Sl) : Out := .exc c [] [] ρ
theorem s_raise {x t : Str} {C : Addr} {j : Nat} {p2 : Pos} (hc : X.calm = true) (tk : Takes X W) (q : PySem.W.excIn X.K C [.type "ValueError", .type "Exception", .type "BaseException", .type "object"] "ValueError.__new__" = true) (gC : X.mg x = some (.ref C)) (kC : PySem.W.keepIn X.K (.ref C) = true)
    (h1 : PySem.W.subIn X.K (.ref C) (.type "BaseException") = some true) (h2 : PySem.W.typeIn X.K (.ref C) = some (.type "type")) (hg : Gl X x := by rfl) (hdb : (x == ("__debug__" : Str)) = false := by decide) :
    PS X (.Raise (some (.Call (.Name x p) [.Constant (.str t) j p2] [] apos)) none pos) (cS X.K X.mg W oc o o' l (sRaise x)) := PS.sub (ps_raise hc tk (pmk_own PySem.F.excBase_ValueError q gC kC (raises_own h1 h2) hg hdb)) fun Dn σ H h => by
  obtain ⟨ρ, B, F0, F, r, k, p⟩ := h
  obtain ⟨F', r', k', _⟩ := r.all k
  exact p (.ref C) none σ F' H r' k' ⟨gC, .inl ⟨rfl, rfl, rfl⟩⟩
/-- a statement that is not reached -/
def sNever (_ : Sl) : Out := .bad
theorem s_never : PS X st (cS X.K X.mg W oc o o' l sNever) := PS.sub ps_never fun Dn σ H h => by
  obtain ⟨ρ, B, F0, F, r, k, p⟩ := h
  exact p
end
end L2.Pd

/-! Small helps; a def that hands back a new list; the law's end. -/
namespace L2.Pd
open PySem PySem.Spec PyProof.Rows
theorem u64 {k : Nat} {A : Around} (r : Room k A) : A.units + 64 < cLine := r.units
theorem u65 {k : Nat} {A : Around} (r : Room k A) : A.units + 65 < cLine := by have := r.un; omega
theorem u1 {k : Nat} {A : Around} (r : Room k A) : A.units + 1 < cLine := by have := r.un; omega
section
variable {X : Cx} {W : WX} {oc o o1 o2 o' l : List Nat} {e a b c : Expr} {es : List Expr} {st : Stmt} {rest : List Stmt} {m ma mb mc : Sl → R} {m1 m2 : Sl → Out} {ms : Sl → Rs (List D)} {pos p apos : Pos}
theorem set_noBC {i : Nat} {m : Sl → R} : NoBC (sSet i m) := fun ρ ρ' => by
  unfold sSet ofR
  split
  · exact ⟨fun h => (nomatch h), fun h => (nomatch h)⟩
  · exact ⟨fun h => (nomatch h), fun h => (nomatch h)⟩
  · exact ⟨fun h => (nomatch h), fun h => (nomatch h)⟩
/-- a def that hands back a new list or dict -/
def spNew (K : PySem.W.Frag) (mg : Str → Option Value) (n : Nat) (f : List D → R) : Sp := fun vs H Q E => ∃ ds F, Same F H ∧ Reps K F vs ds ∧ ds.length = n ∧ PostF K mg F H Q E (f ds)
def spX (K : PySem.W.Frag) (mg : Str → Option Value) (nw : Bool) (n : Nat) (f : List D → R) : Sp := match nw with
  | true => spNew K mg n f
  | false => spOf K mg n f
theorem postF_of {K : PySem.W.Frag} {mg : Str → Option Value} {F H : Hp} {Q : VK} {W : XW} : ∀ {r : R}, PostE K mg F H Q W r → PostF K mg F H Q W r
  | .ok d, p => fun q F' H' x hq fq c => by
    obtain ⟨u, hu, hr⟩ := Cell.rep x.s fq c
    refine p _ (upd F' q u) H' ⟨fun b w e => ?_, x.h, fun b w e => ?_, fun b w e => ?_⟩ hr
    · have e' := x.f _ _ e
      rw [upd_ne (ne_of_none e' fq)]; exact e'
    · by_cases hb : b = q
      · subst hb; rw [upd_same] at e; cases e; exact hu
      · rw [upd_ne hb] at e; exact x.s _ _ e
    · by_cases hb : b = q
      · subst hb; exact .inr hq
      · rw [upd_ne hb] at e; exact x.n _ _ e
  | .exc c ns ds, p => p
theorem new_of {P : Program} {w : World} {K : PySem.W.Frag} {mg : Str → Option Value} {base : Heap} {CX : CXT} {k n : Nat} {f : Addr} {fd : FuncData} {ps : List Str} {g : List D → R} (G : FnOk P w K mg base CX k f fd ps (spNew K mg n g)) : FnOk P w K mg base CX k f fd ps (spOf K mg n g) :=
  G.imp fun vs H Q E ⟨ds, F, h1, h2, h3, h4⟩ => ⟨ds, F, h1, h2, h3, postF_of h4⟩
theorem f_call {f : List D → R} {x : Str} {fa : Addr} {fd : FuncData} {ps : List Str} {n k : Nat} (G : FnOk X.prog X.w X.K X.mg X.base (L2.CX X.prog X.w) k fa fd ps (spNew X.K X.mg n f)) (hn : ∀ ds, ds.length ≠ n → f ds = .bad) (hr : Room k X.A)
    (hm : X.mg x = some (.ref fa)) (hk : PySem.W.keepIn X.K (.ref fa) = true) (hb : Binds X.K fd ps []) (tk : Takes X W) (ha : PA X (e :: es) (cA X.K X.mg W o l ms)) (hg : Gl X x := by rfl)
    (hdb : (x == ("__debug__" : Str)) = false := by decide) (he : starEach (e :: es) X.env = (false, eval e X.env) :: starEach es X.env := by rfl) (hpl : (backTo pos (starEach es X.env)).any (·.1) = false := by rfl) :
    PE X (.Call (.Name x p) (e :: es) [] pos) (cF X.K X.mg W o l (eCall f ms)) := by
  refine PE.sub (pe_callS G hr hg hm hk hb (fun σ => passAt tk σ) ha hdb he hpl) fun σ H Q hh => ?_
  obtain ⟨ρ, B, F, r, q⟩ := hh
  refine cA.bindF r q fun ds vs F1 H1 x1 r1 q1 p1 => ?_
  refine ⟨ds, F1, x1.s, q1, ?_, p1⟩
  by_cases h : ds.length = n
  · exact h
  · rw [hn ds h] at p1
    exact p1.elim
theorem c_callN {f : List D → R} {x : Str} {fa : Addr} {fd : FuncData} {ps : List Str} {n k : Nat} (G : FnOk X.prog X.w X.K X.mg X.base (L2.CX X.prog X.w) k fa fd ps (spNew X.K X.mg n f)) (hn : ∀ ds, ds.length ≠ n → f ds = .bad) (hr : Room k X.A)
    (hm : X.mg x = some (.ref fa)) (hk : PySem.W.keepIn X.K (.ref fa) = true) (hb : Binds X.K fd ps []) (tk : Takes X W) (ha : PA X (e :: es) (cA X.K X.mg W o l ms)) (hg : Gl X x := by rfl)
    (hdb : (x == ("__debug__" : Str)) = false := by decide) (he : starEach (e :: es) X.env = (false, eval e X.env) :: starEach es X.env := by rfl) (hpl : (backTo pos (starEach es X.env)).any (·.1) = false := by rfl) :
    PE X (.Call (.Name x p) (e :: es) [] pos) (cE X.K X.mg W o l (eCall f ms)) := of_new (f_call G hn hr hm hk hb tk ha hg hdb he hpl)
/-- .. of one line, return e -/
def rRet (m : Sl → R) (ρ : Sl) : Out := sRet m ρ
theorem fn_new {P : Program} {w : World} {K : PySem.W.Frag} {mg : Str → Option Value} {base : Heap} {x qual : Str} {st : Stmt} {f : Addr} {fd : FuncData} {N ps : List Str} {k : Nat} {e : Expr} {pos : Pos} {m : Sl → R} (F : Fun K x qual st f fd) (S : FnScope N ps (defScope st)) (hst : defBody st = [.Return (some e) pos])
    (hb : ∀ (cdv : Value) (A : Around) (outer : List Env) (s : Shared) (H : Hp) (E : XK), Room k (A.deeper (envOfC qual (defScope st) s.heap.objs.size f cdv)) →
      PE (cxOf (L2.CX P w) P w K mg base N qual (defScope st) f cdv A outer s H E) e (cF K mg (Wd E) [] [] m)) :
    FnOk P w K mg base (L2.CX P w) (k + 1) f fd ps (spNew K mg ps.length (runB N.length ps.length (sRet m))) := by
  refine F.okX S (fun vs H Q E h => ?_) (fun cdv A outer s H vs Q E hr h => ⟨_, by rw [hst]; exact pss_one (ps_ret (hb cdv A outer s H E hr)), ?_⟩)
  · obtain ⟨ds, G, s, q, hl, _⟩ := h
    rw [q.length, hl]
  · obtain ⟨ds, G, sm, q, hl, p⟩ := h
    refine ⟨_, ⟨H, fun _ => 0⟩, G, rl_start sm q, ?_⟩
    unfold runB at p
    rw [if_pos hl] at p
    rw [hl]
    unfold sRet ofR at p
    cases em : m (ds.map some ++ List.replicate (N.length - ps.length) none) with
    | ok d =>
      rw [em] at p
      exact p
    | exc c ns vs =>
      rw [em] at p
      exact p
    | bad => rw [em] at p; exact p.elim
/-- nothing can be asked with 0 calls -/
theorem none_left {P : Program} {w : World} {K : PySem.W.Frag} {mg : Str → Option Value} {base : Heap} {CX : CXT} {f : Addr} {fd : FuncData} {ps : List Str} {nw : Bool} {n : Nat} {g : List D → R} (hg : ∀ ds, g ds = .bad) : FnOk P w K mg base CX 0 f fd ps (spX K mg nw n g) := by
  have no : ∀ vs H Q E, ¬ spX K mg nw n g vs H Q E := fun vs H Q E h => by
    cases nw with
    | true =>
      obtain ⟨ds, F, _, _, _, p⟩ := h
      rw [hg] at p
      exact p
    | false =>
      obtain ⟨ds, F, _, _, _, p⟩ := h
      rw [hg] at p
      exact p
  exact ⟨fun vs H Q E h => absurd h (no vs H Q E), fun A outer s H args us vs Q E _ _ _ _ h => absurd h (no vs H Q E)⟩
end
/-! ### the law's end -/
/-- what the law promises -/
def spLaw (K : PySem.W.Frag) : Sp := fun vs H Q _ => ∃ (a : Addr) (ns : List Int), vs = [.ref a] ∧ SqL K H a (ns.map V.int) ∧ ns.length ≤ 63 ∧ (∀ z ∈ ns, Builtin.Int.intBits z ≤ 1048576) ∧ ∀ H', Q (.bl true) H'
theorem law_of {P : Program} {w : World} {K : PySem.W.Frag} {mg : Str → Option Value} {base : Heap} {CX : CXT} {k : Nat} {f : Addr} {fd : FuncData} {ps : List Str} {g : List D → R} (G : FnOk P w K mg base CX k f fd ps (spOf K mg 1 g))
    (h : ∀ ns : List Int, ns.length ≤ 63 → (∀ z ∈ ns, Builtin.Int.intBits z ≤ 1048576) → g [.lst (ns.map D.int)] = .ok (.bl true)) : FnOk P w K mg base CX k f fd ps (spLaw K) :=
  G.imp fun vs H Q E ⟨a, ns, h1, h2, h3, h4, h5⟩ => by
    subst h1
    refine ⟨[.lst (ns.map D.int)], H, .refl _, .cons (.lst h2 (Reps.of_ints ns)) .nil, rfl, ?_⟩
    rw [h ns h3 h4]
    intro v F' H' x q
    cases q
    exact h5 H'
theorem no_exc {P : Program} {w : World} {H : Hp} {s : Shared} {e : Value} {s' : Shared} (h : L2.CX P w [] H s (fun _ _ _ => False) e s') : False := by
  obtain ⟨_, _, _, _, _, _, _, _, _, _, _, _, z⟩ := h
  exact z
end L2.Pd
namespace L2.Pd
open PySem PySem.Spec PyProof.Rows
section
variable {P : Program} {w : World} {K : PySem.W.Frag} {mg : Str → Option Value} {base : Heap} {N : List Str} {qual : Str} {scope : Scope} {f : Addr} {cd : Value} {A : Around} {outer : List Env} {s : Shared} {H : Hp} {E : XK}
theorem tkD : Takes (cxOf (L2.CX P w) P w K mg base N qual scope f cd A outer s H E) (Wd E) := takes_of rfl rfl rfl rfl
theorem hpD : PassesOwn (model P w) (cxOf (L2.CX P w) P w K mg base N qual scope f cd A outer s H E).A (cxOf (L2.CX P w) P w K mg base N qual scope f cd A outer s H E).env (cxOf (L2.CX P w) P w K mg base N qual scope f cd A outer s H E).xe := passes_of rfl
end
end L2.Pd

/-! Reckoning with the plain functions: simp lemmas, no program in sight. -/
namespace L2.Pd
open PySem PySem.Spec PyProof.Rows

def Rs.bnd {α β : Type} (r : Rs α) (f : α → Rs β) : Rs β := match r with
  | .ok a => f a
  | .exc c ns vs => .exc c ns vs
  | .bad => .bad
def oIf (r : Rs Bool) (ρ : Sl) (x y : Out) : Out := match r with
  | .ok b => if b = true then x else y
  | .exc c ns ds => .exc c ns ds ρ
  | .bad => .bad
def oSeq (r : Out) (m : Sl → Out) : Out := match r with
  | .nx ρ' => m ρ'
  | .ret d => .ret d
  | .brk ρ' => .brk ρ'
  | .cont ρ' => .cont ρ'
  | .exc c ns ds ρ' => .exc c ns ds ρ'
  | .bad => .bad
def oEnd (r : Out) : R := match r with
  | .ret d => .ok d
  | .nx _ => .ok .non
  | .exc c ns vs _ => .exc c ns vs
  | _ => .bad
def oLp (r : Out) (k : Sl → Out) : Out := match r with
  | .nx ρ2 => k ρ2
  | .cont ρ2 => k ρ2
  | .brk ρ2 => .nx ρ2
  | .ret d => .ret d
  | .exc c ns ds ρ2 => .exc c ns ds ρ2
  | .bad => .bad
def oG (r : Option Sl) (k : Sl → Out) : Out := match r with
  | some ρ => k ρ
  | none => .bad
def oFor (r : Rs (List D)) (ρ : Sl) (k : List D → Out) : Out := match r with
  | .ok ds => k ds
  | .exc c ns ds => .exc c ns ds ρ
  | .bad => .bad
def oLc (r : Rs Bool) (x : R) (k : D → R) (k' : R) : R := match r with
  | .ok true => (match x with
    | .ok d => k d
    | _ => .bad)
  | .ok false => k'
  | _ => .bad
section
variable {α β : Type} {p : Prop} [Decidable p] {ρ : Sl} {d : D}
@[simp] theorem bind_ok (a : α) (f : α → Rs β) : Rs.bnd (.ok a) f = f a := rfl
@[simp] theorem bind_exc (c : Str) (ns : List Str) (vs : List D) (f : α → Rs β) : Rs.bnd (.exc c ns vs) f = .exc c ns vs := rfl
@[simp] theorem bind_bad (f : α → Rs β) : Rs.bnd .bad f = .bad := rfl
@[simp] theorem bind_ite (a b : Rs α) (f : α → Rs β) : Rs.bnd (if p then a else b) f = if p then a.bnd f else b.bnd f := by split <;> rfl
@[simp] theorem ite_ok (a b : α) : (if p then Rs.ok a else Rs.ok b) = Rs.ok (if p then a else b) := by split <;> rfl
@[simp] theorem ite_bl (a b : Bool) : (if p then D.bl a else D.bl b) = D.bl (if p then a else b) := by split <;> rfl
@[simp] theorem ite_int (a b : Int) : (if p then D.int a else D.int b) = D.int (if p then a else b) := by split <;> rfl
@[simp] theorem eVar_zero : eVar 0 (some d :: ρ) = .ok d := rfl
@[simp] theorem eVar_succ (i : Nat) (x : Option D) : eVar (i + 1) (x :: ρ) = eVar i ρ := rfl
@[simp] theorem eC_eq : eC d ρ = .ok d := rfl
@[simp] theorem e1_eq (f : D → R) (m : Sl → R) : e1 f m ρ = (m ρ).bnd f := rfl
@[simp] theorem e2_eq (f : D → D → R) (a b : Sl → R) : e2 f a b ρ = (a ρ).bnd fun x => (b ρ).bnd fun y => f x y := rfl
@[simp] theorem isB_bl (b : Bool) : isB (.bl b) = .ok b := rfl
@[simp] theorem tt_eq (m : Sl → R) : tt m ρ = (m ρ).bnd isB := rfl
@[simp] theorem tAnd_eq (a b : Sl → Rs Bool) : tAnd' a b ρ = (a ρ).bnd fun c => if c = true then b ρ else .ok false := rfl
@[simp] theorem tOr_eq (a b : Sl → Rs Bool) : tOr' a b ρ = (a ρ).bnd fun c => if c = true then .ok true else b ρ := rfl
@[simp] theorem tNot_eq (a : Sl → Rs Bool) : tNot' a ρ = (a ρ).bnd fun c => .ok (!c) := rfl
def bAnd (x : D) (k : R) : R := match x with
  | .bl true => k
  | .bl false => .ok (.bl false)
  | _ => .bad
def bOr (x : D) (k : R) : R := match x with
  | .bl true => .ok (.bl true)
  | .bl false => k
  | _ => .bad
def bNot (x : D) : R := match x with
  | .bl b => .ok (.bl (!b))
  | _ => .bad
@[simp] theorem eAnd_eq (a b : Sl → R) : eAnd a b ρ = (a ρ).bnd fun x => bAnd x (b ρ) := rfl
@[simp] theorem eOr_eq (a b : Sl → R) : eOr a b ρ = (a ρ).bnd fun x => bOr x (b ρ) := rfl
@[simp] theorem eNot_eq (a : Sl → R) : eNot a ρ = (a ρ).bnd bNot := rfl
@[simp] theorem bAnd_bl (b : Bool) (k : R) : bAnd (.bl b) k = if b = true then k else .ok (.bl false) := by cases b <;> rfl
@[simp] theorem bOr_bl (b : Bool) (k : R) : bOr (.bl b) k = if b = true then .ok (.bl true) else k := by cases b <;> rfl
@[simp] theorem bNot_bl (b : Bool) : bNot (.bl b) = .ok (.bl (!b)) := rfl
@[simp] theorem sIf_eq (t : Sl → Rs Bool) (a b : Sl → Out) : sIf t a b ρ = oIf (t ρ) ρ (a ρ) (b ρ) := rfl
@[simp] theorem oIf_ok (b : Bool) (x y : Out) : oIf (.ok b) ρ x y = if b = true then x else y := rfl
@[simp] theorem oIf_exc (c : Str) (ns : List Str) (vs : List D) (x y : Out) : oIf (.exc c ns vs) ρ x y = .exc c ns vs ρ := rfl
@[simp] theorem oIf_ite (a b : Rs Bool) (x y : Out) : oIf (if p then a else b) ρ x y = if p then oIf a ρ x y else oIf b ρ x y := by split <;> rfl
@[simp] theorem sSeq_eq (a b : Sl → Out) : sSeq a b ρ = oSeq (a ρ) b := rfl
@[simp] theorem sNil_eq : sNil ρ = .nx ρ := rfl
@[simp] theorem oSeq_nx (m : Sl → Out) : oSeq (.nx ρ) m = m ρ := rfl
@[simp] theorem oSeq_ret (m : Sl → Out) : oSeq (.ret d) m = .ret d := rfl
@[simp] theorem oSeq_brk (m : Sl → Out) : oSeq (.brk ρ) m = .brk ρ := rfl
@[simp] theorem oSeq_cont (m : Sl → Out) : oSeq (.cont ρ) m = .cont ρ := rfl
@[simp] theorem oSeq_exc (c : Str) (ns : List Str) (vs : List D) (m : Sl → Out) : oSeq (.exc c ns vs ρ) m = .exc c ns vs ρ := rfl
@[simp] theorem oSeq_bad (m : Sl → Out) : oSeq .bad m = .bad := rfl
@[simp] theorem oSeq_ite (a b : Out) (m : Sl → Out) : oSeq (if p then a else b) m = if p then oSeq a m else oSeq b m := by split <;> rfl
@[simp] theorem oEnd_ret : oEnd (.ret d) = .ok d := rfl
@[simp] theorem oEnd_nx : oEnd (.nx ρ) = .ok .non := rfl
@[simp] theorem oEnd_exc (c : Str) (ns : List Str) (vs : List D) : oEnd (.exc c ns vs ρ) = .exc c ns vs := rfl
@[simp] theorem oEnd_bad : oEnd .bad = .bad := rfl
@[simp] theorem oEnd_ite (a b : Out) : oEnd (if p then a else b) = if p then oEnd a else oEnd b := by split <;> rfl
@[simp] theorem ofR_ok (k : D → Out) : ofR (.ok d) ρ k = k d := rfl
@[simp] theorem ofR_exc (c : Str) (ns : List Str) (vs : List D) (k : D → Out) : ofR (.exc c ns vs) ρ k = .exc c ns vs ρ := rfl
@[simp] theorem ofR_bad (k : D → Out) : ofR .bad ρ k = .bad := rfl
@[simp] theorem ofR_ite (a b : R) (k : D → Out) : ofR (if p then a else b) ρ k = if p then ofR a ρ k else ofR b ρ k := by split <;> rfl
@[simp] theorem sRet_eq (m : Sl → R) : sRet m ρ = ofR (m ρ) ρ .ret := rfl
@[simp] theorem sRetN_eq : sRetN ρ = .ret .non := rfl
@[simp] theorem sCont_eq : sCont ρ = .cont ρ := rfl
@[simp] theorem sBrk_eq : sBrk ρ = .brk ρ := rfl
@[simp] theorem sNever_eq : sNever ρ = .bad := rfl
@[simp] theorem sRaise_eq (c : Str) : sRaise c ρ = .exc c [] [] ρ := rfl
@[simp] theorem sSet_eq (i : Nat) (m : Sl → R) : sSet i m ρ = ofR (m ρ) ρ fun d => .nx (ρ.set i (some d)) := rfl
@[simp] theorem gN_eq (i : Nat) : gN i d ρ = some (ρ.set i (some d)) := rfl
@[simp] theorem gsNil_eq : gsNil [] ρ = some ρ := rfl
@[simp] theorem gsCons_eq (g : D → Sl → Option Sl) (gs : List D → Sl → Option Sl) (r : List D) : gsCons g gs (d :: r) ρ = (g d ρ).bind fun ρ' => gs r ρ' := rfl
@[simp] theorem gT_eq (n : Nat) (gs : List D → Sl → Option Sl) (ds : List D) : gT n gs (.tup ds) ρ = if ds.length = n then gs ds ρ else none := rfl
@[simp] theorem sUnp_eq (g : D → Sl → Option Sl) (m : Sl → R) : sUnp g m ρ = ofR (m ρ) ρ fun d => oG (g d ρ) .nx := rfl
@[simp] theorem oG_some (k : Sl → Out) : oG (some ρ) k = k ρ := rfl
@[simp] theorem sDrop_eq (m : Sl → R) : sDrop m ρ = ofR (m ρ) ρ fun _ => .nx ρ := rfl
@[simp] theorem aNil_eq : aNil ρ = .ok [] := rfl
@[simp] theorem aCons_eq (m : Sl → R) (ms : Sl → Rs (List D)) : aCons m ms ρ = (m ρ).bnd fun x => (ms ρ).bnd fun xs => .ok (x :: xs) := rfl
@[simp] theorem eCall_eq (f : List D → R) (ms : Sl → Rs (List D)) : eCall f ms ρ = (ms ρ).bnd f := rfl
def oTup (ds : List D) : R := if sizeOkN ds.length then .ok (.tup ds) else .bad
def oLst (ds : List D) : R := if sizeOkN ds.length then .ok (.lst ds) else .bad
@[simp] theorem eTup_eq (ms : Sl → Rs (List D)) : eTup ms ρ = (ms ρ).bnd oTup := rfl
@[simp] theorem eLst_eq (ms : Sl → Rs (List D)) : eLst ms ρ = (ms ρ).bnd oLst := rfl
@[simp] theorem oTup0 : oTup [] = .ok (.tup []) := rfl
@[simp] theorem oTup1 (a : D) : oTup [a] = .ok (.tup [a]) := rfl
@[simp] theorem oTup2 (a b : D) : oTup [a, b] = .ok (.tup [a, b]) := rfl
@[simp] theorem oTup3 (a b c : D) : oTup [a, b, c] = .ok (.tup [a, b, c]) := rfl
@[simp] theorem oTup4 (a b c e : D) : oTup [a, b, c, e] = .ok (.tup [a, b, c, e]) := rfl
@[simp] theorem oTup5 (a b c e f : D) : oTup [a, b, c, e, f] = .ok (.tup [a, b, c, e, f]) := rfl
@[simp] theorem oTup6 (a b c e f g : D) : oTup [a, b, c, e, f, g] = .ok (.tup [a, b, c, e, f, g]) := rfl
@[simp] theorem oTup7 (a b c e f g h : D) : oTup [a, b, c, e, f, g, h] = .ok (.tup [a, b, c, e, f, g, h]) := rfl
@[simp] theorem oLst0 : oLst [] = .ok (.lst []) := rfl
@[simp] theorem oLst1 (a : D) : oLst [a] = .ok (.lst [a]) := rfl
@[simp] theorem oLst2 (a b : D) : oLst [a, b] = .ok (.lst [a, b]) := rfl
@[simp] theorem oLst3 (a b c : D) : oLst [a, b, c] = .ok (.lst [a, b, c]) := rfl
@[simp] theorem oLst4 (a b c e : D) : oLst [a, b, c, e] = .ok (.lst [a, b, c, e]) := rfl
@[simp] theorem oLst5 (a b c e f : D) : oLst [a, b, c, e, f] = .ok (.lst [a, b, c, e, f]) := rfl
@[simp] theorem oLst6 (a b c e f g : D) : oLst [a, b, c, e, f, g] = .ok (.lst [a, b, c, e, f, g]) := rfl
@[simp] theorem oLst7 (a b c e f g h : D) : oLst [a, b, c, e, f, g, h] = .ok (.lst [a, b, c, e, f, g, h]) := rfl
/-! operations -/
@[simp] theorem dAdd_int (i j : Int) : dAdd (.int i) (.int j) = .ok (.int (i + j)) := rfl
@[simp] theorem dSub_int (i j : Int) : dSub (.int i) (.int j) = .ok (.int (i - j)) := rfl
@[simp] theorem dLt_int (i j : Int) : dLt (.int i) (.int j) = .ok (.bl (decide (i < j))) := rfl
@[simp] theorem dLe_int (i j : Int) : dLe (.int i) (.int j) = .ok (.bl (decide (i ≤ j))) := rfl
@[simp] theorem dGt_int (i j : Int) : dGt (.int i) (.int j) = .ok (.bl (decide (j < i))) := rfl
@[simp] theorem dGe_int (i j : Int) : dGe (.int i) (.int j) = .ok (.bl (decide (j ≤ i))) := rfl
@[simp] theorem dNeg_int (i : Int) : dNeg (.int i) = .ok (.int (-i)) := rfl
@[simp] theorem dEq_int (i j : Int) : dEq (.int i) (.int j) = .ok (.bl (i == j)) := rfl
@[simp] theorem dNe_int (i j : Int) : dNe (.int i) (.int j) = .ok (.bl (!(i == j))) := rfl
@[simp] theorem dEq_bl (i j : Bool) : dEq (.bl i) (.bl j) = .ok (.bl (i == j)) := rfl
@[simp] theorem dNe_bl (i j : Bool) : dNe (.bl i) (.bl j) = .ok (.bl (!(i == j))) := rfl
@[simp] theorem dIsN_non : dIsN .non .non = .ok (.bl true) := rfl
@[simp] theorem dIsN_int (i : Int) : dIsN (.int i) .non = .ok (.bl false) := rfl
@[simp] theorem dIsN_lst (l : List D) : dIsN (.lst l) .non = .ok (.bl false) := rfl
@[simp] theorem dIsN_tup (l : List D) : dIsN (.tup l) .non = .ok (.bl false) := rfl
@[simp] theorem dNotN_non : dNotN .non .non = .ok (.bl false) := rfl
@[simp] theorem dNotN_int (i : Int) : dNotN (.int i) .non = .ok (.bl true) := rfl
@[simp] theorem dNotN_lst (l : List D) : dNotN (.lst l) .non = .ok (.bl true) := rfl
@[simp] theorem dNotN_tup (l : List D) : dNotN (.tup l) .non = .ok (.bl true) := rfl
theorem dMul_of {i j : Int} (h : mulOk i j = true) : dMulI (.int i) (.int j) = .ok (.int (i * j)) := by
  show (if mulOk i j = true then Rs.ok (D.int (i * j)) else Rs.bad) = _
  rw [if_pos h]
theorem dDiv_of {i j : Int} (h : divOk j = true) : dDiv (.int i) (.int j) = .ok (.int (i / j)) := by
  show (if divOk j = true then Rs.ok (D.int (i / j)) else Rs.bad) = _
  rw [if_pos h]
theorem dMod_of {i j : Int} (h : 0 < j) : dMod (.int i) (.int j) = .ok (.int (i % j)) := by
  show (if decide (0 < j) = true then Rs.ok (D.int (i % j)) else Rs.bad) = _
  rw [if_pos (decide_eq_true h)]
def bCh (z : D) (k : R) : R := match z with
  | .bl true => k
  | .bl false => .ok (.bl false)
  | _ => .bad
@[simp] theorem dLen_lst (l : List D) : dLen (.lst l) = .ok (.int l.length) := rfl
@[simp] theorem dLen_tup (l : List D) : dLen (.tup l) = .ok (.int l.length) := rfl
@[simp] theorem dList_lst (l : List D) : dList (.lst l) = .ok (.lst l) := rfl
@[simp] theorem dList_tup (l : List D) : dList (.tup l) = .ok (.lst l) := rfl
@[simp] theorem dTuple_lst (l : List D) : dTuple (.lst l) = .ok (.tup l) := rfl
@[simp] theorem dInt_int (i : Int) : dInt [.int i] = .ok (.int i) := rfl
@[simp] theorem dInt_bl (b : Bool) : dInt [.bl b] = .ok (.int (if b then 1 else 0)) := rfl
@[simp] theorem dMax2_int (i j : Int) : dMax2 [.int i, .int j] = .ok (.int (max i j)) := by
  show Rs.ok (D.int (if j > i then j else i)) = _
  congr 2; rw [Int.max_def]; split <;> split <;> omega
@[simp] theorem dMin2_int (i j : Int) : dMin2 [.int i, .int j] = .ok (.int (min i j)) := by
  show Rs.ok (D.int (if j < i then j else i)) = _
  congr 2; rw [Int.min_def]; split <;> split <;> omega
@[simp] theorem eIx_eq (a b : Sl → R) : eIx a b ρ = (a ρ).bnd fun x => if okB x then (b ρ).bnd fun y => dIx x y else .bad := rfl
@[simp] theorem okB_lst (l : List D) : okB (.lst l) = true := rfl
@[simp] theorem okB_tup (l : List D) : okB (.tup l) = true := rfl
@[simp] theorem okB_str (l : Str) : okB (.str l) = true := rfl
theorem atI_nat {β : Type} (l : List β) {n : Nat} (h : n < l.length) : atI l (n : Nat) = some (l[n]'h) := by
  unfold atI ixN
  rw [if_pos (by omega), if_pos (by omega)]
  show l[(n : Int).toNat]? = _
  rw [show (n : Int).toNat = n from rfl, List.getElem?_eq_getElem h]
theorem dIx_tn {l : List D} {n : Nat} (h : n < l.length) : dIx (.tup l) (.int (n : Nat)) = .ok (l[n]'h) := by
  show (match atI l (n : Nat) with | some d => Rs.ok d | none => .bad) = _
  rw [atI_nat l h]
theorem dIx_ln {l : List D} {n : Nat} (h : n < l.length) : dIx (.lst l) (.int (n : Nat)) = .ok (l[n]'h) := by
  show (match atI l (n : Nat) with | some d => Rs.ok d | none => .bad) = _
  rw [atI_nat l h]
@[simp] theorem dIx_t0 (a : D) (l : List D) : dIx (.tup (a :: l)) (.int 0) = .ok a := dIx_tn (n := 0) (by simp)
@[simp] theorem dIx_t1 (a b : D) (l : List D) : dIx (.tup (a :: b :: l)) (.int 1) = .ok b := dIx_tn (n := 1) (by simp)
@[simp] theorem dIx_t2 (a b c : D) (l : List D) : dIx (.tup (a :: b :: c :: l)) (.int 2) = .ok c := dIx_tn (n := 2) (by simp)
@[simp] theorem dIx_t3 (a b c e : D) (l : List D) : dIx (.tup (a :: b :: c :: e :: l)) (.int 3) = .ok e := dIx_tn (n := 3) (by simp)
@[simp] theorem dIx_t4 (a b c e f : D) (l : List D) : dIx (.tup (a :: b :: c :: e :: f :: l)) (.int 4) = .ok f := dIx_tn (n := 4) (by simp)
@[simp] theorem dIx_t5 (a b c e f g : D) (l : List D) : dIx (.tup (a :: b :: c :: e :: f :: g :: l)) (.int 5) = .ok g := dIx_tn (n := 5) (by simp)
@[simp] theorem dIx_t6 (a b c e f g h : D) (l : List D) : dIx (.tup (a :: b :: c :: e :: f :: g :: h :: l)) (.int 6) = .ok h := dIx_tn (n := 6) (by simp)
@[simp] theorem dIx_l0 (a : D) (l : List D) : dIx (.lst (a :: l)) (.int 0) = .ok a := dIx_ln (n := 0) (by simp)
@[simp] theorem dIx_l1 (a b : D) (l : List D) : dIx (.lst (a :: b :: l)) (.int 1) = .ok b := dIx_ln (n := 1) (by simp)
@[simp] theorem dIx_l2 (a b c : D) (l : List D) : dIx (.lst (a :: b :: c :: l)) (.int 2) = .ok c := dIx_ln (n := 2) (by simp)
@[simp] theorem dIx_l3 (a b c e : D) (l : List D) : dIx (.lst (a :: b :: c :: e :: l)) (.int 3) = .ok e := dIx_ln (n := 3) (by simp)
@[simp] theorem dIx_l4 (a b c e f : D) (l : List D) : dIx (.lst (a :: b :: c :: e :: f :: l)) (.int 4) = .ok f := dIx_ln (n := 4) (by simp)
def at0 {β : Type} [Inhabited β] (l : List β) (k : Int) : β := l.getD k.toNat default
theorem at0_get {β : Type} [Inhabited β] {l : List β} {k : Int} (h : 0 ≤ k) (h' : k < l.length) : l[k.toNat]? = some (at0 l k) := by
  unfold at0
  rw [List.getD_eq_getElem?_getD, List.getElem?_eq_getElem (by omega)]
  rfl
theorem atI_map {β : Type} [Inhabited β] {f : β → D} {l : List β} {k : Int} (h : 0 ≤ k) (h' : k < l.length) : atI (l.map f) k = some (f (at0 l k)) := by
  unfold atI ixN
  rw [if_pos h, List.length_map, if_pos h']
  show (l.map f)[k.toNat]? = _
  rw [List.getElem?_map, at0_get h h']
  rfl
theorem dIx_lm {β : Type} [Inhabited β] {f : β → D} {l : List β} {k : Int} (h : 0 ≤ k) (h' : k < l.length) : dIx (.lst (l.map f)) (.int k) = .ok (f (at0 l k)) := by
  show (match atI (l.map f) k with | some d => Rs.ok d | none => .bad) = _
  rw [atI_map h h']
theorem dIx_tm {β : Type} [Inhabited β] {f : β → D} {l : List β} {k : Int} (h : 0 ≤ k) (h' : k < l.length) : dIx (.tup (l.map f)) (.int k) = .ok (f (at0 l k)) := by
  show (match atI (l.map f) k with | some d => Rs.ok d | none => .bad) = _
  rw [atI_map h h']
/-! chains -/
theorem eCh_eq (f g : D → D → R) (a b c : Sl → R) : eCh f g a b c ρ = (a ρ).bnd fun x => (b ρ).bnd fun y => (f x y).bnd fun z => bCh z ((c ρ).bnd fun w => g y w) := rfl
@[simp] theorem bCh_bl (b : Bool) (k : R) : bCh (.bl b) k = if b = true then k else .ok (.bl false) := by cases b <;> rfl
/-! loops -/
@[simp] theorem iOf_eq (m : Sl → R) : iOf m ρ = (m ρ).bnd dIt := rfl
@[simp] theorem dIt_lst (l : List D) : dIt (.lst l) = .ok l := rfl
@[simp] theorem dIt_tup (l : List D) : dIt (.tup l) = .ok l := rfl
@[simp] theorem iCall_eq (f : List D → Rs (List D)) (ms : Sl → Rs (List D)) : iCall f ms ρ = (ms ρ).bnd f := rfl
@[simp] theorem aConsW_eq (m : Sl → R) (ms : Sl → Rs (List D)) : aConsW m ms ρ = (m ρ).bnd fun x => if okW x then (ms ρ).bnd fun xs => .ok (x :: xs) else .bad := rfl
@[simp] theorem okW_lst (l : List D) : okW (.lst l) = true := rfl
@[simp] theorem okW_tup (l : List D) : okW (.tup l) = true := rfl
@[simp] theorem iZp_eq (a b : List D) : iZp [.lst a, .lst b] = .ok (zipD a b) := rfl
@[simp] theorem iEn_eq (a : List D) : iEn [.lst a] = .ok (enumD 0 a) := rfl
theorem iRan1_of {j : Int} (h : small62 j = true) : iRan1 [.int j] = .ok (rngD 0 j.toNat) := by
  show (if small62 j = true then Rs.ok (rngD 0 j.toNat) else Rs.bad) = _
  rw [if_pos h]
theorem iRan2_of {i j : Int} (h : small62 i = true) (h' : small62 j = true) : iRan2 [.int i, .int j] = .ok (rngD i (j - i).toNat) := by
  show (if (small62 i && small62 j) = true then Rs.ok (rngD i (j - i).toNat) else Rs.bad) = _
  rw [if_pos (by rw [h, h']; rfl)]
theorem rngD_eq (lo : Int) (n : Nat) : rngD lo n = ((List.range n).map fun k => lo + (k : Nat)).map D.int := by
  unfold rngD
  rw [List.map_map]
  rfl
@[simp] theorem sFor_eq (mi : Sl → Rs (List D)) (g : D → Sl → Option Sl) (mb : Sl → Out) : sFor mi g mb ρ = oFor (mi ρ) ρ fun ds => forL g mb ds ρ := rfl
@[simp] theorem oFor_ok (ds : List D) (k : List D → Out) : oFor (.ok ds) ρ k = k ds := rfl
@[simp] theorem forL_nil (g : D → Sl → Option Sl) (mb : Sl → Out) : forL g mb [] ρ = .nx ρ := rfl
@[simp] theorem forL_cons (g : D → Sl → Option Sl) (mb : Sl → Out) (r : List D) : forL g mb (d :: r) ρ = oG (g d ρ) fun ρ1 => oLp (mb ρ1) (forL g mb r) := by
  show (match g d ρ with | none => _ | some ρ1 => _) = _
  cases g d ρ <;> rfl
@[simp] theorem oLp_nx (k : Sl → Out) : oLp (.nx ρ) k = k ρ := rfl
@[simp] theorem oLp_cont (k : Sl → Out) : oLp (.cont ρ) k = k ρ := rfl
@[simp] theorem oLp_brk (k : Sl → Out) : oLp (.brk ρ) k = .nx ρ := rfl
@[simp] theorem oLp_ret (k : Sl → Out) : oLp (.ret d) k = .ret d := rfl
@[simp] theorem oLp_exc (c : Str) (ns : List Str) (vs : List D) (k : Sl → Out) : oLp (.exc c ns vs ρ) k = .exc c ns vs ρ := rfl
@[simp] theorem oLp_bad (k : Sl → Out) : oLp .bad k = .bad := rfl
@[simp] theorem oLp_ite (a b : Out) (k : Sl → Out) : oLp (if p then a else b) k = if p then oLp a k else oLp b k := by split <;> rfl
/-! comprehensions -/
@[simp] theorem eLc_eq (vs : List Nat) (mi : Sl → Rs (List D)) (g : D → Sl → Option Sl) (t : Sl → Rs Bool) (m : Sl → R) : eLc vs mi g t m ρ = (mi ρ).bnd fun ds => lcL vs g t m ρ ds [] := rfl
/-- a comprehension over a mapped list: its part's worth -/
theorem lcL_map {β γ : Type} {vs : List Nat} {g : D → Sl → Option Sl} {m : Sl → R} {f : β → D} {h : γ → D} (F : β → γ) : ∀ (xs : List β) (acc : List D), acc.length + xs.length ≤ 16000000 →
    (∀ x ∈ xs, ∃ ρ2, g (f x) (wipeD ρ vs) = some ρ2 ∧ m ρ2 = .ok (h (F x))) → lcL vs g tAll m ρ (xs.map f) acc = .ok (.lst (acc ++ xs.map fun x => h (F x)))
  | [], acc, _, _ => by
    show Rs.ok (D.lst acc) = _
    rw [List.map_nil, List.append_nil]
  | x :: r, acc, hl, hx => by
    obtain ⟨ρ2, e1, e2⟩ := hx x (List.mem_cons_self ..)
    rw [List.length_cons] at hl
    show (match g (f x) (wipeD ρ vs) with | none => _ | some ρ2 => _) = _
    rw [e1]
    show (match m ρ2 with | .ok x => _ | _ => _) = _
    rw [e2]
    show (if sizeOkN acc.length = true then lcL vs g tAll m ρ (r.map f) (acc ++ [h (F x)]) else .bad) = _
    rw [if_pos (show sizeOkN acc.length = true from decide_eq_true (by omega)), lcL_map F r _ (by rw [List.length_append, List.length_singleton]; omega) fun y hy => hx y (List.mem_cons_of_mem _ hy)]
    rw [List.map_cons, List.append_assoc]
    rfl
/-- with a test -/
theorem lcL_filter {β γ : Type} {vs : List Nat} {g : D → Sl → Option Sl} {t : Sl → Rs Bool} {m : Sl → R} {f : β → D} {h : γ → D} (F : β → γ) (T : β → Bool) : ∀ (xs : List β) (acc : List D), acc.length + xs.length ≤ 16000000 →
    (∀ x ∈ xs, ∃ ρ2, g (f x) (wipeD ρ vs) = some ρ2 ∧ t ρ2 = .ok (T x) ∧ (T x = true → m ρ2 = .ok (h (F x)))) → lcL vs g t m ρ (xs.map f) acc = .ok (.lst (acc ++ (xs.filter T).map fun x => h (F x)))
  | [], acc, _, _ => by
    show Rs.ok (D.lst acc) = _
    rw [List.filter_nil, List.map_nil, List.append_nil]
  | x :: r, acc, hl, hx => by
    obtain ⟨ρ2, e1, e3, e2⟩ := hx x (List.mem_cons_self ..)
    rw [List.length_cons] at hl
    show (match g (f x) (wipeD ρ vs) with | none => _ | some ρ2 => _) = _
    rw [e1]
    show (match t ρ2 with | .ok true => _ | .ok false => _ | _ => _) = _
    rw [e3]
    cases hT : T x with
    | true =>
      show (match m ρ2 with | .ok x => _ | _ => _) = _
      rw [e2 hT]
      show (if sizeOkN acc.length = true then lcL vs g t m ρ (r.map f) (acc ++ [h (F x)]) else .bad) = _
      rw [if_pos (show sizeOkN acc.length = true from decide_eq_true (by omega)), lcL_filter F T r _ (by rw [List.length_append, List.length_singleton]; omega) fun y hy => hx y (List.mem_cons_of_mem _ hy)]
      rw [List.filter_cons_of_pos hT, List.map_cons, List.append_assoc]
      rfl
    | false =>
      show lcL vs g t m ρ (r.map f) acc = _
      rw [lcL_filter F T r _ (by omega) fun y hy => hx y (List.mem_cons_of_mem _ hy), List.filter_cons_of_neg (by rw [hT]; decide)]
/-! dicts -/
def oGet (d : D) (k v : R) : R := match d with
  | .dic ks vs => k.bnd fun k => v.bnd fun v => match k with
    | .int n => .ok ((dLook ks vs n).getD v)
    | _ => .bad
  | _ => .bad
@[simp] theorem eGet_eq (a b c : Sl → R) : eGet a b c ρ = (a ρ).bnd fun d => oGet d (b ρ) (c ρ) := rfl
@[simp] theorem oGet_dic (ks : List Int) (vs : List D) (n : Int) (v : D) : oGet (.dic ks vs) (.ok (.int n)) (.ok v) = .ok ((dLook ks vs n).getD v) := rfl
@[simp] theorem dDict_dic (ks : List Int) (vs : List D) : dDict (.dic ks vs) = .ok (.dic ks vs) := rfl
@[simp] theorem eIn_eq (b : Bool) (x y : Sl → R) : eIn b x y ρ = (x ρ).bnd fun v => (y ρ).bnd fun w => dIn b v w := rfl
@[simp] theorem dIn_dic (b : Bool) (ks : List Int) (vs : List D) (n : Int) : dIn b (.int n) (.dic ks vs) = .ok (.bl (b.xor (dLook ks vs n).isSome)) := rfl
/-! texts -/
theorem eq_str (x y : Str) : D.eqv (.str x) (.str y) = (x == y) := by simp only [D.eqv, D.py, PyData.eqv]
theorem dEq_str {x y : Str} {b : Bool} (h : (PyData.strOk x && PyData.strOk y) = true) (e : (x == y) = b) : dEq (.str x) (.str y) = .ok (.bl b) := by
  rw [Bool.and_eq_true] at h
  have s : ∀ z, PyData.strOk z = true → (D.str z).sh = true := fun z hz => by simp [D.sh, D.py, SeqAt.shaped, PyData.canLay0, PyData.depth, hz]
  unfold dEq
  rw [s x h.1, s y h.2, eq_str, e]
  rfl
theorem dNe_str {x y : Str} {b : Bool} (h : (PyData.strOk x && PyData.strOk y) = true) (e : (x == y) = b) : dNe (.str x) (.str y) = .ok (.bl (!b)) := by
  rw [Bool.and_eq_true] at h
  have s : ∀ z, PyData.strOk z = true → (D.str z).sh = true := fun z hz => by simp [D.sh, D.py, SeqAt.shaped, PyData.canLay0, PyData.depth, hz]
  unfold dNe
  rw [s x h.1, s y h.2, eq_str, e]
  rfl
end
/-! sizes, depths, equality -/
section
def D.lay (d : D) : Bool := d.py.canLay0
def D.dep (d : D) : Nat := d.py.depth
theorem sh_of {d : D} (h : d.lay = true) (h' : d.dep ≤ 64) : d.sh = true := by
  unfold D.sh SeqAt.shaped
  rw [show d.py.canLay0 = true from h]
  exact decide_eq_true h'
theorem lays_all : ∀ l : List D, PyData.canLayAll0 (D.pys l) = l.all D.lay
  | [] => rfl
  | d :: r => by
    simp only [D.pys, PyData.canLayAll0, List.all_cons, lays_all r]
    rfl
theorem lay_lst (l : List D) : (D.lst l).lay = l.all D.lay := by
  show PyData.canLay0 (.list (D.pys l)) = _
  rw [PyData.canLay0, lays_all]
theorem lay_tup (l : List D) : (D.tup l).lay = l.all D.lay := by
  show PyData.canLay0 (.tuple (D.pys l)) = _
  rw [PyData.canLay0, lays_all]
@[simp] theorem lay_int (i : Int) : (D.int i).lay = true := rfl
@[simp] theorem lay_bl (i : Bool) : (D.bl i).lay = true := rfl
@[simp] theorem lay_non : D.non.lay = true := rfl
theorem lay_str (x : Str) : (D.str x).lay = PyData.strOk x := by simp only [D.lay, D.py, PyData.canLay0]
@[simp] theorem dep_int (i : Int) : (D.int i).dep = 0 := by simp only [D.dep, D.py, PyData.depth]
@[simp] theorem dep_bl (i : Bool) : (D.bl i).dep = 0 := by simp only [D.dep, D.py, PyData.depth]
@[simp] theorem dep_str (i : Str) : (D.str i).dep = 0 := by simp only [D.dep, D.py, PyData.depth]
@[simp] theorem dep_non : D.non.dep = 0 := by simp only [D.dep, D.py, PyData.depth]
theorem deps_le {k : Nat} : ∀ l : List D, (∀ x ∈ l, x.dep ≤ k) → PyData.depthAll (D.pys l) ≤ k
  | [], _ => by simp only [D.pys, PyData.depthAll]; exact Nat.zero_le _
  | d :: r, h => by
    simp only [D.pys, PyData.depthAll]
    exact Nat.max_le.mpr ⟨h d (List.mem_cons_self ..), deps_le r fun x hx => h x (List.mem_cons_of_mem _ hx)⟩
theorem dep_lst {k : Nat} {l : List D} (h : ∀ x ∈ l, x.dep ≤ k) : (D.lst l).dep ≤ k + 1 := by
  show PyData.depth (.list (D.pys l)) ≤ _
  rw [PyData.depth]
  exact Nat.add_le_add_right (deps_le l h) 1
theorem dep_tup {k : Nat} {l : List D} (h : ∀ x ∈ l, x.dep ≤ k) : (D.tup l).dep ≤ k + 1 := by
  show PyData.depth (.tuple (D.pys l)) ≤ _
  rw [PyData.depth]
  exact Nat.add_le_add_right (deps_le l h) 1
def D.eqvs : List D → List D → Bool
  | [], [] => true
  | x :: xs, y :: ys => x.eqv y && D.eqvs xs ys
  | _, _ => false
theorem eqvs_eq : ∀ l m : List D, PyData.eqvAll (D.pys l) (D.pys m) = D.eqvs l m
  | [], [] => by simp only [D.pys, PyData.eqvAll, D.eqvs]
  | [], _ :: _ => by simp only [D.pys, PyData.eqvAll, D.eqvs]
  | _ :: _, [] => by simp only [D.pys, PyData.eqvAll, D.eqvs]
  | x :: xs, y :: ys => by simp only [D.pys, PyData.eqvAll, D.eqvs, eqvs_eq xs ys]; rfl
@[simp] theorem eqv_int (i j : Int) : D.eqv (.int i) (.int j) = (i == j) := by simp only [D.eqv, D.py, PyData.eqv]
@[simp] theorem eqv_bl (i j : Bool) : D.eqv (.bl i) (.bl j) = (i == j) := by simp only [D.eqv, D.py, PyData.eqv]
@[simp] theorem eqv_str (i j : Str) : D.eqv (.str i) (.str j) = (i == j) := by simp only [D.eqv, D.py, PyData.eqv]
@[simp] theorem eqv_lst (i j : List D) : D.eqv (.lst i) (.lst j) = D.eqvs i j := by simp only [D.eqv, D.py, PyData.eqv, eqvs_eq]
@[simp] theorem eqv_tup (i j : List D) : D.eqv (.tup i) (.tup j) = D.eqvs i j := by simp only [D.eqv, D.py, PyData.eqv, eqvs_eq]
@[simp] theorem eqvs_nil : D.eqvs [] [] = true := rfl
@[simp] theorem eqvs_nc (x : D) (l : List D) : D.eqvs [] (x :: l) = false := rfl
@[simp] theorem eqvs_cn (x : D) (l : List D) : D.eqvs (x :: l) [] = false := rfl
@[simp] theorem eqvs_cons (x y : D) (l m : List D) : D.eqvs (x :: l) (y :: m) = (x.eqv y && D.eqvs l m) := rfl
theorem eqvs_map {β : Type} [BEq β] {f : β → D} (h : ∀ a b, (f a).eqv (f b) = (a == b)) : ∀ l m : List β, D.eqvs (l.map f) (m.map f) = (l == m)
  | [], [] => rfl
  | [], _ :: _ => rfl
  | _ :: _, [] => rfl
  | x :: xs, y :: ys => by
    show ((f x).eqv (f y) && D.eqvs (xs.map f) (ys.map f)) = _
    rw [h, eqvs_map h xs ys]
    rfl
theorem dEq_of {x y : D} {b : Bool} (h : x.sh = true) (h' : y.sh = true) (e : x.eqv y = b) : dEq x y = .ok (.bl b) := by
  unfold dEq
  rw [h, h', e]
  rfl
theorem dNe_of {x y : D} {b : Bool} (h : x.sh = true) (h' : y.sh = true) (e : x.eqv y = b) : dNe x y = .ok (.bl (!b)) := by
  unfold dNe
  rw [h, h', e]
  rfl
theorem any_map {β : Type} [BEq β] [LawfulBEq β] {f : β → D} (h : ∀ a b, (f a).eqv (f b) = (a == b)) (l : List β) (b : β) : ((l.map f).any fun z => z.eqv (f b)) = l.contains b := by
  rw [List.any_map, List.contains_eq_any_beq]
  congr 1
  funext a
  show (f a).eqv (f b) = _
  rw [h, Bool.eq_iff_iff, beq_iff_eq, beq_iff_eq, eq_comm]
/-- x in l, not in, of things that are not flat -/
theorem dIn_map {β : Type} [BEq β] [LawfulBEq β] {f : β → D} (neg : Bool) (h : ∀ a b, (f a).eqv (f b) = (a == b)) (hf : ∀ a, flatD (f a) = false) (hs : ∀ a, (f a).lay = true) (hd : ∀ a, (f a).dep ≤ 63) (l : List β) (b : β) :
    dIn neg (f b) (.lst (l.map f)) = .ok (.bl (neg.xor (l.contains b))) := by
  unfold dIn
  dsimp only
  rw [hf b, Bool.false_and, if_neg (by decide), sh_of (hs b) (Nat.le_trans (hd b) (by decide)), sh_of (d := .lst (l.map f)) (by rw [lay_lst, List.all_map]; exact List.all_eq_true.mpr fun a _ => hs a) (dep_lst (k := 63) fun x hx => by obtain ⟨a, _, rfl⟩ := List.mem_map.mp hx; exact hd a), any_map h]
  rfl
theorem dAdd_lst {x y : List D} (h : x.length + y.length ≤ 16000000) : dAdd (.lst x) (.lst y) = .ok (.lst (x ++ y)) := by
  show (if sizeOkN (x.length + y.length) = true then Rs.ok (D.lst (x ++ y)) else .bad) = _
  rw [if_pos (show sizeOkN (x.length + y.length) = true from decide_eq_true h)]
theorem sApp_of {i : Nat} {m : Sl → R} {ρ : Sl} {ds : List D} {d : D} (h : ρ[i]? = some (some (.lst ds))) (e : m ρ = .ok d) (hl : ds.length ≤ 16000000) : sApp i m ρ = .nx (ρ.set i (some (.lst (ds ++ [d])))) := by
  unfold sApp
  rw [h]
  dsimp only
  rw [e]
  show (if sizeOkN ds.length = true then _ else _) = _
  rw [if_pos (show sizeOkN ds.length = true from decide_eq_true hl)]
def oSet (i : Nat) (ρ : Sl) (c : Option (Option D)) (mk mv : Sl → R) : Out := match c with
  | some (some (.lst ds)) => ofR (mv ρ) ρ fun v => ofR (mk ρ) ρ fun k => match k with
    | .int n => match ixN ds.length n with
      | some j => .nx (ρ.set i (some (.lst (ds.set j v))))
      | none => .bad
    | _ => .bad
  | some (some (.dic ks vs)) => ofR (mv ρ) ρ fun v => ofR (mk ρ) ρ fun k => match k with
    | .int n => if sizeOkN ks.length then .nx (ρ.set i (some (dPut ks vs n v))) else .bad
    | _ => .bad
  | _ => .bad
theorem sSetIx_eq (i : Nat) (mk mv : Sl → R) (ρ : Sl) : sSetIx i mk mv ρ = oSet i ρ ρ[i]? mk mv := rfl
theorem sSetIx_dic {i : Nat} {mk mv : Sl → R} {ρ : Sl} {ks : List Int} {vs : List D} {n : Int} {v : D} (h : ρ[i]? = some (some (.dic ks vs))) (hv : mv ρ = .ok v) (hk : mk ρ = .ok (.int n)) (hl : ks.length ≤ 16000000) : sSetIx i mk mv ρ = .nx (ρ.set i (some (dPut ks vs n v))) := by
  rw [sSetIx_eq, h]
  show ofR (mv ρ) ρ _ = _
  rw [hv]
  show ofR (mk ρ) ρ _ = _
  rw [hk]
  show (if sizeOkN ks.length = true then _ else _) = _
  rw [if_pos (show sizeOkN ks.length = true from decide_eq_true hl)]
theorem sSetIx_lst {i : Nat} {mk mv : Sl → R} {ρ : Sl} {ds : List D} {n : Int} {v : D} (h : ρ[i]? = some (some (.lst ds))) (hv : mv ρ = .ok v) (hk : mk ρ = .ok (.int n)) (h0 : 0 ≤ n) (hl : n < ds.length) : sSetIx i mk mv ρ = .nx (ρ.set i (some (.lst (ds.set n.toNat v)))) := by
  rw [sSetIx_eq, h]
  show ofR (mv ρ) ρ _ = _
  rw [hv]
  show ofR (mk ρ) ρ _ = _
  rw [hk]
  show (match ixN ds.length n with | some j => _ | none => _) = _
  unfold ixN
  rw [if_pos h0, if_pos hl]
/-! dicts from numbers to truth values -/
def lkp (l : List (Int × Bool)) (k : Int) : Option Bool := match l with
  | [] => none
  | (a, b) :: r => if a = k then some b else lkp r k
def lD (l : List (Int × Bool)) : D := .dic (l.map (·.1)) (l.map fun p => .bl p.2)
theorem look_lD (k : Int) : ∀ l : List (Int × Bool), dLook (l.map (·.1)) (l.map fun p => .bl p.2) k = (lkp l k).map D.bl
  | [] => rfl
  | (a, b) :: r => by
    show (if a = k then some (D.bl b) else dLook (r.map (·.1)) (r.map fun p => .bl p.2) k) = _
    rw [look_lD k r]
    show _ = (if a = k then some b else lkp r k).map D.bl
    split <;> rfl
theorem lkp_mem {k : Int} : ∀ {l : List (Int × Bool)}, lkp l k = none → k ∉ l.map (·.1)
  | [], _, h => by cases h
  | (a, b) :: r, e, h => by
    unfold lkp at e
    split at e
    · cases e
    · rename_i hne
      rcases List.mem_cons.mp h with h | h
      · exact hne h.symm
      · exact lkp_mem e h
theorem lkp_snoc (l : List (Int × Bool)) (k : Int) (b : Bool) (j : Int) : lkp (l ++ [(k, b)]) j = (lkp l j).or (if k = j then some b else none) := by
  induction l with
  | nil => simp [lkp]
  | cons p r ih =>
    obtain ⟨a, c⟩ := p
    simp only [List.cons_append, lkp]
    split
    · rfl
    · exact ih
theorem dPut_lD {l : List (Int × Bool)} {k : Int} {b : Bool} (h : lkp l k = none) : dPut (l.map (·.1)) (l.map fun p => .bl p.2) k (.bl b) = lD (l ++ [(k, b)]) := by
  unfold dPut
  rw [if_neg (lkp_mem h)]
  simp [lD]
theorem dIn_lD (neg : Bool) (l : List (Int × Bool)) (k : Int) : dIn neg (.int k) (lD l) = .ok (.bl (neg.xor (lkp l k).isSome)) := by
  show Rs.ok (D.bl (neg.xor (dLook (l.map (·.1)) (l.map fun p => D.bl p.2) k).isSome)) = _
  rw [look_lD]
  cases lkp l k <;> rfl
theorem oGet_lD (l : List (Int × Bool)) (k : Int) (b : Bool) : oGet (lD l) (.ok (.int k)) (.ok (.bl b)) = .ok (.bl ((lkp l k).getD b)) := by
  show Rs.ok ((dLook (l.map (·.1)) (l.map fun p => D.bl p.2) k).getD (.bl b)) = _
  rw [look_lD]
  cases lkp l k <;> rfl
theorem dDict_lD (l : List (Int × Bool)) : dDict (lD l) = .ok (lD l) := rfl
/-! zip, slices -/
theorem zipD_map {β γ : Type} (f : β → D) (g : γ → D) : ∀ (l : List β) (m : List γ), zipD (l.map f) (m.map g) = (l.zip m).map fun p => .tup [f p.1, g p.2]
  | [], _ => rfl
  | _ :: _, [] => rfl
  | x :: xs, y :: ys => by
    show D.tup [f x, g y] :: zipD (xs.map f) (ys.map g) = _
    rw [zipD_map f g xs ys]
    rfl
@[simp] theorem pNone_eq (ρ : Sl) : pNone ρ = .ok none := rfl
def oP (d : D) : Rs (Option Int) := match d with
  | .int i => .ok (some i)
  | _ => .bad
@[simp] theorem oP_int (i : Int) : oP (.int i) = .ok (some i) := rfl
@[simp] theorem pSome_eq (m : Sl → R) (ρ : Sl) : pSome m ρ = (m ρ).bnd oP := rfl
@[simp] theorem eSl_eq (m : Sl → R) (a b : Sl → Rs (Option Int)) (ρ : Sl) : eSl m a b ρ = (m ρ).bnd fun x => if okB x then (a ρ).bnd fun lo => (b ρ).bnd fun hi => dSl x lo hi else .bad := rfl
@[simp] theorem dSl_lst (l : List D) (a b : Option Int) : dSl (.lst l) a b = .ok (.lst (cutD l a b)) := rfl
theorem cut_from (l : List D) (i : Nat) : cutD l (some (i : Int)) none = l.drop i := by
  unfold cutD
  rw [HT.sIx_nat]
  show (l.drop (min i l.length)).take (l.length - min i l.length) = _
  rw [List.take_of_length_le (by rw [List.length_drop]; omega)]
  by_cases h : i ≤ l.length
  · rw [Nat.min_eq_left h]
  · rw [Nat.min_eq_right (by omega), List.drop_of_length_le (by omega), List.drop_of_length_le (by omega)]
end
end L2.Pd

/-! More for reckoning: sizes of numbers, kinds of things, a thing and itself. -/
namespace L2.Pd
open PySem PySem.Spec PyProof.Rows
theorem log_le {m k : Nat} (h : m < 2 ^ k) (hk : 0 < k) : m.log2 < k := by
  by_cases hm : m = 0
  · subst hm; simpa using hk
  · exact (Nat.log2_lt hm).mpr h
theorem log_int {i : Int} {k : Nat} (h1 : -(2 ^ k : Int) < i) (h2 : i < 2 ^ k) (hk : 0 < k) : i.natAbs.log2 < k := log_le (by
  have : ((2 ^ k : Nat) : Int) = 2 ^ k := by norm_cast
  omega) hk
/-- products of numbers of moderate size -/
theorem dMul_le {i j : Int} (a : -1000000000000000000000000000000000000000000000000000000000000 ≤ i) (b : i ≤ 1000000000000000000000000000000000000000000000000000000000000) (c : -1000000000000000000000000000000000000000000000000000000000000 ≤ j) (d : j ≤ 1000000000000000000000000000000000000000000000000000000000000) :
    dMulI (.int i) (.int j) = .ok (.int (i * j)) := dMul_of (by
  have h1 := log_int (i := i) (k := 200) (by omega) (by omega) (by decide)
  have h2 := log_int (i := j) (k := 200) (by omega) (by omega) (by decide)
  exact decide_eq_true (by omega))
theorem dDiv_le {i j : Int} (a : 0 < j) (b : j ≤ 1000000000000000000000000000000000000000000000000000000000000) : dDiv (.int i) (.int j) = .ok (.int (i / j)) := dDiv_of (by
  have h2 := log_int (i := j) (k := 200) (by omega) (by omega) (by decide)
  unfold divOk
  rw [decide_eq_true a, decide_eq_true (show j.natAbs.log2 < 9000 by omega)]
  rfl)
theorem log_bits {i : Int} {k : Nat} (h : Builtin.Int.intBits i ≤ k) : i.natAbs.log2 ≤ k := by
  unfold Builtin.Int.intBits at h
  split at h
  · rename_i h0
    rw [show i = 0 from by simpa using h0]
    exact Nat.zero_le _
  · omega
theorem dMul_bits {i j : Int} (h : Builtin.Int.intBits i ≤ 1048576) (c : -1000000000000000000000000000000000000000000000000000000000000 ≤ j) (d : j ≤ 1000000000000000000000000000000000000000000000000000000000000) : dMulI (.int i) (.int j) = .ok (.int (i * j)) := dMul_of (by
  have h1 := log_bits h
  have h2 := log_int (i := j) (k := 200) (by omega) (by omega) (by decide)
  exact decide_eq_true (by omega))
/-! kinds -/
@[simp] theorem is_int_int (i : Int) : dIs "int" (.int i) = .ok (.bl true) := rfl
@[simp] theorem is_bool_int (i : Int) : dIs "bool" (.int i) = .ok (.bl false) := rfl
@[simp] theorem is_int_bl (i : Bool) : dIs "int" (.bl i) = .ok (.bl true) := rfl
@[simp] theorem is_bool_bl (i : Bool) : dIs "bool" (.bl i) = .ok (.bl true) := rfl
@[simp] theorem is_list_lst (i : List D) : dIs "list" (.lst i) = .ok (.bl true) := rfl
@[simp] theorem is_list_tup (i : List D) : dIs "list" (.tup i) = .ok (.bl false) := rfl
@[simp] theorem is_list_int (i : Int) : dIs "list" (.int i) = .ok (.bl false) := rfl
@[simp] theorem is_list_str (i : Str) : dIs "list" (.str i) = .ok (.bl false) := rfl
@[simp] theorem is_list_bl (i : Bool) : dIs "list" (.bl i) = .ok (.bl false) := rfl
@[simp] theorem is_list_non : dIs "list" .non = .ok (.bl false) := rfl
@[simp] theorem is_tup_tup (i : List D) : dIs "tuple" (.tup i) = .ok (.bl true) := rfl
@[simp] theorem is_tup_lst (i : List D) : dIs "tuple" (.lst i) = .ok (.bl false) := rfl
@[simp] theorem is_tup_int (i : Int) : dIs "tuple" (.int i) = .ok (.bl false) := rfl
@[simp] theorem is_tup_str (i : Str) : dIs "tuple" (.str i) = .ok (.bl false) := rfl
@[simp] theorem is_tup_bl (i : Bool) : dIs "tuple" (.bl i) = .ok (.bl false) := rfl
@[simp] theorem is_tup_non : dIs "tuple" .non = .ok (.bl false) := rfl
/-! a thing and itself -/
mutual
def noDic : D → Bool
  | .dic _ _ => false
  | .obj _ _ _ => false
  | .lst l => noDics l
  | .tup l => noDics l
  | _ => true
def noDics : List D → Bool
  | [] => true
  | d :: r => noDic d && noDics r
end
mutual
theorem eqv_self : ∀ d : D, d.lay = true → d.eqv d = true
  | .non, _ => by simp only [D.eqv, D.py, PyData.eqv]
  | .bl b, _ => by simp
  | .int b, _ => by simp
  | .str b, _ => by simp
  | .lst l, h => by rw [eqv_lst]; rw [lay_lst] at h; exact eqvs_self l h
  | .tup l, h => by rw [eqv_tup]; rw [lay_tup] at h; exact eqvs_self l h
  | .dic _ _, h => by simp [D.lay, D.py, PyData.canLay0] at h
  | .obj _ _ _, h => by simp [D.lay, D.py, PyData.canLay0] at h
theorem eqvs_self : ∀ l : List D, l.all D.lay = true → D.eqvs l l = true
  | [], _ => rfl
  | d :: r, h => by
    rw [List.all_cons, Bool.and_eq_true] at h
    rw [eqvs_cons, eqv_self d h.1, eqvs_self r h.2]
    rfl
end
theorem dEq_self {d : D} (h : d.lay = true) (h' : d.dep ≤ 64) : dEq d d = .ok (.bl true) := dEq_of (sh_of h h') (sh_of h h') (eqv_self d h)
theorem dNe_self {d : D} (h : d.lay = true) (h' : d.dep ≤ 64) : dNe d d = .ok (.bl false) := dNe_of (sh_of h h') (sh_of h h') (eqv_self d h)
/-- a comprehension that copies -/
theorem lcL_id {vs : List Nat} {g : D → Sl → Option Sl} {m : Sl → R} {ρ : Sl} (xs : List D) (hl : xs.length ≤ 16000000) (hx : ∀ x ∈ xs, ∃ ρ2, g x (wipeD ρ vs) = some ρ2 ∧ m ρ2 = .ok x) : lcL vs g tAll m ρ xs [] = .ok (.lst xs) := by
  have := lcL_map (ρ := ρ) (vs := vs) (g := g) (m := m) (f := id) (h := id) id xs [] (by simpa using hl) (by simpa using hx)
  simpa using this
theorem ints_map (ns : List Int) : ints? (ns.map D.int) = some ns := ints?_map ns
theorem dMax_map {ns : List Int} (h : ns ≠ []) : dMax (.lst (ns.map D.int)) = .ok (.int (maxL ns)) := by
  show (match ints? (ns.map D.int) with | some (n :: r) => Rs.ok (D.int (maxL (n :: r))) | _ => .bad) = _
  rw [ints?_map]
  cases ns with
  | nil => exact (h rfl).elim
  | cons n r => rfl
theorem dMin_map {ns : List Int} (h : ns ≠ []) : dMin (.lst (ns.map D.int)) = .ok (.int (minL ns)) := by
  show (match ints? (ns.map D.int) with | some (n :: r) => Rs.ok (D.int (minL (n :: r))) | _ => .bad) = _
  rw [ints?_map]
  cases ns with
  | nil => exact (h rfl).elim
  | cons n r => rfl
theorem dSum_map (ns : List Int) : dSum (.lst (ns.map D.int)) = .ok (.int ns.sum) := by
  show (match ints? (ns.map D.int) with | some ms => Rs.ok (D.int ms.sum) | none => .bad) = _
  rw [ints?_map]
/-! cells of a script -/
def cel (ns : List Int) (k : Int) : Int := if k < ns.length then at0 ns k else 0
theorem cel_bits {ns : List Int} (h : ∀ z ∈ ns, Builtin.Int.intBits z ≤ 1048576) {k : Int} (hk : 0 ≤ k) : Builtin.Int.intBits (cel ns k) ≤ 1048576 := by
  unfold cel
  split
  · rename_i h1
    exact h _ (List.mem_of_getElem? (at0_get hk h1))
  · decide
theorem iRan1_le {j : Int} (h : 0 ≤ j) (h' : j ≤ 1000000000) : iRan1 [.int j] = .ok (rngD 0 j.toNat) := iRan1_of (by unfold small62; rw [decide_eq_true (by omega), decide_eq_true (by omega)]; rfl)
theorem sizeOk_of {n : Nat} (h : n ≤ 16000000) : sizeOkN n = true := decide_eq_true h
def oApp (i : Nat) (ρ : Sl) (c : Option (Option D)) (m : Sl → R) : Out := match c with
  | some (some (.lst ds)) => ofR (m ρ) ρ fun d => if sizeOkN ds.length then .nx (ρ.set i (some (.lst (ds ++ [d])))) else .bad
  | _ => .bad
def sAt (i : Nat) (ρ : Sl) : Option (Option D) := ρ[i]?
@[simp] theorem sAt_zero (x : Option D) (ρ : Sl) : sAt 0 (x :: ρ) = some x := rfl
@[simp] theorem sAt_succ (i : Nat) (x : Option D) (ρ : Sl) : sAt (i + 1) (x :: ρ) = sAt i ρ := rfl
theorem sSet_at (i : Nat) (mk mv : Sl → R) (ρ : Sl) : sSetIx i mk mv ρ = oSet i ρ (sAt i ρ) mk mv := rfl
def oStL (i : Nat) (ρ : Sl) (ds : List D) (v k : D) : Out := match k with
  | .int n => match ixN ds.length n with
    | some j => .nx (ρ.set i (some (.lst (ds.set j v))))
    | none => .bad
  | _ => .bad
theorem oSet_lst (i : Nat) (mk mv : Sl → R) (ρ : Sl) (ds : List D) : oSet i ρ (some (some (.lst ds))) mk mv = ofR (mv ρ) ρ fun v => ofR (mk ρ) ρ fun k => oStL i ρ ds v k := rfl
theorem oStL_int {i : Nat} {ρ : Sl} {ds : List D} {v : D} {n : Int} (h0 : 0 ≤ n) (hl : n < ds.length) : oStL i ρ ds v (.int n) = .nx (ρ.set i (some (.lst (ds.set n.toNat v)))) := by
  unfold oStL ixN
  dsimp only
  rw [if_pos h0, if_pos hl]
theorem sApp_eq (i : Nat) (m : Sl → R) (ρ : Sl) : sApp i m ρ = oApp i ρ (sAt i ρ) m := rfl
theorem oApp_lst (i : Nat) (m : Sl → R) (ρ : Sl) (ds : List D) : oApp i ρ (some (some (.lst ds))) m = ofR (m ρ) ρ fun d => if sizeOkN ds.length then .nx (ρ.set i (some (.lst (ds ++ [d])))) else .bad := rfl
/-- ends plainly, with slots that are P -/
def NxP (P : Sl → Prop) (o : Out) : Prop := ∃ ρ, o = .nx ρ ∧ P ρ
@[simp] theorem NxP_nx (P : Sl → Prop) (ρ : Sl) : NxP P (.nx ρ) = P ρ := by
  refine propext ⟨fun ⟨_, e, h⟩ => ?_, fun h => ⟨ρ, rfl, h⟩⟩
  cases e
  exact h
end L2.Pd

namespace L2.Lw
open PySem PySem.Spec PyProof.Rows L2.Pd
/-! ### the text -/
def topS (i : Nat) : Stmt := PySem.Challenge.pw_cratefit_k34_papers_looked_at.main.body.getD i (.Pass ⟨0, 0, 0, 0⟩)
inductive Fn where
  | sides_of | lies_of | ways_of | side_of_box | chain_total | leaf_right | turn_right | pair_right | way_right | bars_all | law_cell | law_sides | law_two | law_whole | law_leaf | law_turn | law_bars | law_copy | law_leaf_drawn | law_drawn | law_four | law_deep | law_deep_right | law_ware | law
abbrev s_sides_of : Stmt := topS 4
theorem sc_sides_of : FnScope ["ware", "lie"] ["ware", "lie"] (defScope s_sides_of) := ⟨rfl, rfl, rfl, by decide +kernel, rfl, by decide +kernel, by decide +kernel⟩
abbrev s_lies_of : Stmt := topS 5
theorem sc_lies_of : FnScope ["ware"] ["ware"] (defScope s_lies_of) := ⟨rfl, rfl, rfl, by decide +kernel, rfl, by decide +kernel, by decide +kernel⟩
abbrev s_ways_of : Stmt := topS 7
theorem sc_ways_of : FnScope ["i", "j"] ["i", "j"] (defScope s_ways_of) := ⟨rfl, rfl, rfl, by decide +kernel, rfl, by decide +kernel, by decide +kernel⟩
abbrev s_side_of_box : Stmt := topS 8
theorem sc_side_of_box : FnScope ["box", "word"] ["box", "word"] (defScope s_side_of_box) := ⟨rfl, rfl, rfl, by decide +kernel, rfl, by decide +kernel, by decide +kernel⟩
abbrev s_chain_total : Stmt := topS 9
theorem sc_chain_total : FnScope ["wares", "lies", "word", "numbers", "total", "k", "sides"] ["wares", "lies", "word", "numbers"] (defScope s_chain_total) := ⟨rfl, rfl, rfl, by decide +kernel, rfl, by decide +kernel, by decide +kernel⟩
abbrev s_leaf_right : Stmt := topS 10
theorem sc_leaf_right : FnScope ["box", "wares", "leaf", "lies", "told", "word", "numbers", "k", "a", "b"] ["box", "wares", "leaf", "lies", "told"] (defScope s_leaf_right) := ⟨rfl, rfl, rfl, by decide +kernel, rfl, by decide +kernel, by decide +kernel⟩
abbrev s_turn_right : Stmt := topS 11
theorem sc_turn_right : FnScope ["box", "wares", "paper", "lies", "told", "k", "lie", "now"] ["box", "wares", "paper", "lies", "told"] (defScope s_turn_right) := ⟨rfl, rfl, rfl, by decide +kernel, rfl, by decide +kernel, by decide +kernel⟩
abbrev s_pair_right : Stmt := topS 12
theorem sc_pair_right : FnScope ["box", "wares", "paper", "lies", "told", "i", "j", "at", "way"] ["box", "wares", "paper", "lies", "told"] (defScope s_pair_right) := ⟨rfl, rfl, rfl, by decide +kernel, rfl, by decide +kernel, by decide +kernel⟩
abbrev s_way_right : Stmt := topS 13
theorem sc_way_right : FnScope ["box", "wares", "paper", "lies", "told"] ["box", "wares", "paper", "lies", "told"] (defScope s_way_right) := ⟨rfl, rfl, rfl, by decide +kernel, rfl, by decide +kernel, by decide +kernel⟩
abbrev s_bars_all : Stmt := topS 14
theorem sc_bars_all : FnScope ["box", "wares", "paper"] ["box", "wares", "paper"] (defScope s_bars_all) := ⟨rfl, rfl, rfl, by decide +kernel, rfl, by decide +kernel, by decide +kernel⟩
abbrev s_law_cell : Stmt := topS 16
theorem sc_law_cell : FnScope ["script", "k"] ["script", "k"] (defScope s_law_cell) := ⟨rfl, rfl, rfl, by decide +kernel, rfl, by decide +kernel, by decide +kernel⟩
abbrev s_law_sides : Stmt := topS 17
theorem sc_law_sides : FnScope ["ware", "lie"] ["ware", "lie"] (defScope s_law_sides) := ⟨rfl, rfl, rfl, by decide +kernel, rfl, by decide +kernel, by decide +kernel⟩
abbrev s_law_two : Stmt := topS 18
theorem sc_law_two : FnScope ["ware"] ["ware"] (defScope s_law_two) := ⟨rfl, rfl, rfl, by decide +kernel, rfl, by decide +kernel, by decide +kernel⟩
abbrev s_law_whole : Stmt := topS 19
theorem sc_law_whole : FnScope ["found"] ["found"] (defScope s_law_whole) := ⟨rfl, rfl, rfl, by decide +kernel, rfl, by decide +kernel, by decide +kernel⟩
abbrev s_law_leaf : Stmt := topS 20
theorem sc_law_leaf : FnScope ["box", "wares", "leaf", "lies", "told", "axis", "total", "last", "k"] ["box", "wares", "leaf", "lies", "told"] (defScope s_law_leaf) := ⟨rfl, rfl, rfl, by decide +kernel, rfl, by decide +kernel, by decide +kernel⟩
abbrev s_law_turn : Stmt := topS 21
theorem sc_law_turn : FnScope ["box", "wares", "paper", "lies", "told", "room", "k", "lie", "now"] ["box", "wares", "paper", "lies", "told", "room"] (defScope s_law_turn) := ⟨rfl, rfl, rfl, by decide +kernel, rfl, by decide +kernel, by decide +kernel⟩
abbrev s_law_bars : Stmt := topS 22
theorem sc_law_bars : FnScope ["box", "wares", "paper", "lies", "told", "room", "i", "j", "ways", "at"] ["box", "wares", "paper", "lies", "told", "room"] (defScope s_law_bars) := ⟨rfl, rfl, rfl, by decide +kernel, rfl, by decide +kernel, by decide +kernel⟩
abbrev s_law_copy : Stmt := topS 23
theorem sc_law_copy : FnScope ["paper", "part"] ["paper"] (defScope s_law_copy) := ⟨rfl, rfl, rfl, by decide +kernel, rfl, by decide +kernel, by decide +kernel⟩
abbrev s_law_leaf_drawn : Stmt := topS 24
theorem sc_law_leaf_drawn : FnScope ["cell", "told", "many", "honest", "last", "word", "k"] ["cell", "told", "many", "honest"] (defScope s_law_leaf_drawn) := ⟨rfl, rfl, rfl, by decide +kernel, rfl, by decide +kernel, by decide +kernel⟩
abbrev s_law_drawn : Stmt := topS 25
theorem sc_law_drawn : FnScope ["script", "at", "room", "many", "told", "honest", "cell", "kind", "parts", "k", "i", "j", "way"] ["script", "at", "room", "many", "told", "honest"] (defScope s_law_drawn) := ⟨rfl, rfl, rfl, by decide +kernel, rfl, by decide +kernel, by decide +kernel⟩
abbrev s_law_four : Stmt := topS 26
theorem sc_law_four : FnScope ["i", "j"] ["i", "j"] (defScope s_law_four) := ⟨rfl, rfl, rfl, by decide +kernel, rfl, by decide +kernel, by decide +kernel⟩
abbrev s_law_deep : Stmt := topS 27
theorem sc_law_deep : FnScope ["cell", "many", "bad", "paper", "k", "i", "at", "parts", "word", "numbers", "lists"] ["cell", "many", "bad"] (defScope s_law_deep) := ⟨rfl, rfl, rfl, by decide +kernel, rfl, by decide +kernel, by decide +kernel⟩
abbrev s_law_deep_right : Stmt := topS 28
theorem sc_law_deep_right : FnScope ["script", "unit", "wares", "k", "cell", "box", "paper", "due", "kept", "found"] ["script", "unit"] (defScope s_law_deep_right) := ⟨rfl, rfl, rfl, by decide +kernel, rfl, by decide +kernel, by decide +kernel⟩
abbrev s_law_ware : Stmt := topS 29
theorem sc_law_ware : FnScope ["cell", "unit", "turns", "w", "h"] ["cell", "unit", "turns"] (defScope s_law_ware) := ⟨rfl, rfl, rfl, by decide +kernel, rfl, by decide +kernel, by decide +kernel⟩
abbrev s_law : Stmt := topS 30
theorem sc_law : FnScope ["script", "many", "honest", "unit", "wares", "k", "box", "side", "ware", "paper", "due", "kept", "handed", "turn", "found"] ["script"] (defScope s_law) := ⟨rfl, rfl, rfl, by decide +kernel, rfl, by decide +kernel, by decide +kernel⟩
def np : Fn → Nat
  | .sides_of => 2
  | .lies_of => 1
  | .ways_of => 2
  | .side_of_box => 2
  | .chain_total => 4
  | .leaf_right => 5
  | .turn_right => 5
  | .pair_right => 5
  | .way_right => 5
  | .bars_all => 3
  | .law_cell => 2
  | .law_sides => 2
  | .law_two => 1
  | .law_whole => 1
  | .law_leaf => 5
  | .law_turn => 6
  | .law_bars => 6
  | .law_copy => 1
  | .law_leaf_drawn => 4
  | .law_drawn => 6
  | .law_four => 2
  | .law_deep => 3
  | .law_deep_right => 2
  | .law_ware => 3
  | .law => 1
def pr : Fn → List Str
  | .sides_of => ["ware", "lie"]
  | .lies_of => ["ware"]
  | .ways_of => ["i", "j"]
  | .side_of_box => ["box", "word"]
  | .chain_total => ["wares", "lies", "word", "numbers"]
  | .leaf_right => ["box", "wares", "leaf", "lies", "told"]
  | .turn_right => ["box", "wares", "paper", "lies", "told"]
  | .pair_right => ["box", "wares", "paper", "lies", "told"]
  | .way_right => ["box", "wares", "paper", "lies", "told"]
  | .bars_all => ["box", "wares", "paper"]
  | .law_cell => ["script", "k"]
  | .law_sides => ["ware", "lie"]
  | .law_two => ["ware"]
  | .law_whole => ["found"]
  | .law_leaf => ["box", "wares", "leaf", "lies", "told"]
  | .law_turn => ["box", "wares", "paper", "lies", "told", "room"]
  | .law_bars => ["box", "wares", "paper", "lies", "told", "room"]
  | .law_copy => ["paper"]
  | .law_leaf_drawn => ["cell", "told", "many", "honest"]
  | .law_drawn => ["script", "at", "room", "many", "told", "honest"]
  | .law_four => ["i", "j"]
  | .law_deep => ["cell", "many", "bad"]
  | .law_deep_right => ["script", "unit"]
  | .law_ware => ["cell", "unit", "turns"]
  | .law => ["script"]
def isNew : Fn → Bool
  | .law_four => true
  | _ => false
/-! ### what each def does -/
noncomputable section
def b_sides_of (c : Fn → List D → R) : Sl → Out := (sSeq (sIf (tNot' (tt (eVar 1))) (sRet (eTup (aCons (eIx (eVar 0) (eC (.int 0))) (aCons (eIx (eVar 0) (eC (.int 1))) aNil)))) sNil) (sSeq (sIf (tNot' (tt (eIx (eVar 0) (eC (.int 2))))) sNever sNil) (sRet (eTup (aCons (eIx (eVar 0) (eC (.int 1))) (aCons (eIx (eVar 0) (eC (.int 0))) aNil))))))
def b_lies_of (c : Fn → List D → R) : Sl → Out := (sSeq (sIf (tAnd' (tt (eIx (eVar 0) (eC (.int 2)))) (tt (e2 dNe (eIx (eVar 0) (eC (.int 0))) (eIx (eVar 0) (eC (.int 1)))))) (sRet (eLst (aCons (eC (.bl false)) (aCons (eC (.bl true)) aNil)))) sNil) (sRet (eLst (aCons (eC (.bl false)) aNil))))
def b_ways_of (c : Fn → List D → R) : Sl → Out := (sRet (eLst (aCons (eTup (aCons (eC (.str "across")) (aCons (eVar 0) (aCons (eVar 1) aNil)))) (aCons (eTup (aCons (eC (.str "across")) (aCons (eVar 1) (aCons (eVar 0) aNil)))) (aCons (eTup (aCons (eC (.str "up")) (aCons (eVar 0) (aCons (eVar 1) aNil)))) (aCons (eTup (aCons (eC (.str "up")) (aCons (eVar 1) (aCons (eVar 0) aNil)))) aNil))))))
def b_side_of_box (c : Fn → List D → R) : Sl → Out := (sSeq (sIf (tt (e2 dEq (eVar 1) (eC (.str "up")))) (sRet (eIx (eVar 0) (eC (.int 1)))) sNil) (sRet (eIx (eVar 0) (eC (.int 0)))))
def b_chain_total_1 (c : Fn → List D → R) : Sl → Out := (sSeq (sSet 6 (eCall (c .sides_of) (aCons (eIx (eVar 0) (eVar 5)) (aCons (eGet (eVar 1) (eVar 5) (eC (.bl false))) aNil)))) (sSet 4 (e2 dAdd (eVar 4) (eCall (c .side_of_box) (aCons (eVar 6) (aCons (eVar 2) aNil))))))
def b_chain_total (c : Fn → List D → R) : Sl → Out := (sSeq (sSet 4 (eC (.int 0))) (sSeq (sFor (iOf (eVar 3)) (gN 5) (b_chain_total_1 c)) (sRet (eVar 4))))
def b_leaf_right_1 (c : Fn → List D → R) : Sl → Out := (sSeq (sIf (tNot' (tt (eCh dLe dLt (eC (.int 0)) (eVar 7) (e1 dLen (eVar 1))))) (sRet (eC (.bl false))) sNil) (sIf (tAnd' (tt (e2 dEq (e1 dLen (eCall (c .lies_of) (aCons (eIx (eVar 1) (eVar 7)) aNil))) (eC (.int 2)))) (tt (eIn true (eVar 7) (eVar 3)))) (sRet (eC (.bl false))) sNil))
def b_leaf_right_2 (c : Fn → List D → R) : Sl → Out := (sIf (tt (eIn true (eTup (aCons (eVar 5) (aCons (eVar 8) (aCons (eVar 9) aNil)))) (eVar 4))) (sRet (eC (.bl false))) sNil)
def b_leaf_right (c : Fn → List D → R) : Sl → Out := (sSeq (sSet 5 (eIx (eVar 2) (eC (.int 1)))) (sSeq (sSet 6 (eIx (eVar 2) (eC (.int 2)))) (sSeq (sIf (tt (e2 dEq (e1 dLen (eVar 6)) (eC (.int 0)))) (sRet (eC (.bl false))) sNil) (sSeq (sFor (iOf (eVar 6)) (gN 7) (b_leaf_right_1 c)) (sSeq (sFor (iCall iZp (aConsW (eVar 6) (aConsW (eSl (eVar 6) (pSome (eC (.int 1))) pNone) aNil))) (gT 2 (gsCons (gN 8) (gsCons (gN 9) gsNil))) (b_leaf_right_2 c)) (sRet (e2 dGt (eCall (c .chain_total) (aCons (eVar 1) (aCons (eVar 3) (aCons (eVar 5) (aCons (eVar 6) aNil))))) (eCall (c .side_of_box) (aCons (eVar 0) (aCons (eVar 5) aNil))))))))))
def b_turn_right_1 (c : Fn → List D → R) : Sl → Out := (sSeq (sSet 7 (e1 dDict (eVar 3))) (sSeq (sSetIx 7 (eVar 5) (eVar 6)) (sIf (tNot' (tt (eCall (c .way_right) (aCons (eVar 0) (aCons (eVar 1) (aCons (eIx (eVar 2) (e2 dAdd (eC (.int 2)) (eCall dInt (aCons (eVar 6) aNil)))) (aCons (eVar 7) (aCons (eVar 4) aNil)))))))) (sRet (eC (.bl false))) sNil)))
def b_turn_right (c : Fn → List D → R) : Sl → Out := (sSeq (sSet 5 (eIx (eVar 2) (eC (.int 1)))) (sSeq (sIf (tOr' (tNot' (tt (eCh dLe dLt (eC (.int 0)) (eVar 5) (e1 dLen (eVar 1))))) (tOr' (tt (eIn false (eVar 5) (eVar 3))) (tt (e2 dLt (e1 dLen (eCall (c .lies_of) (aCons (eIx (eVar 1) (eVar 5)) aNil))) (eC (.int 2)))))) (sRet (eC (.bl false))) sNil) (sSeq (sFor (iOf (eTup (aCons (eC (.bl false)) (aCons (eC (.bl true)) aNil)))) (gN 6) (b_turn_right_1 c)) (sRet (eC (.bl true))))))
def b_pair_right_1 (c : Fn → List D → R) : Sl → Out := (sSeq (sIf (tNot' (tt (eCall (c .way_right) (aCons (eVar 0) (aCons (eVar 1) (aCons (eIx (eVar 2) (eVar 7)) (aCons (eVar 3) (aCons (e2 dAdd (eVar 4) (eLst (aCons (eVar 8) aNil))) aNil)))))))) (sRet (eC (.bl false))) sNil) (sSet 7 (e2 dAdd (eVar 7) (eC (.int 1)))))
def b_pair_right (c : Fn → List D → R) : Sl → Out := (sSeq (sSet 5 (eIx (eVar 2) (eC (.int 1)))) (sSeq (sSet 6 (eIx (eVar 2) (eC (.int 2)))) (sSeq (sIf (tOr' (tt (e2 dEq (eVar 5) (eVar 6))) (tOr' (tNot' (tt (eCh dLe dLt (eC (.int 0)) (eVar 5) (e1 dLen (eVar 1))))) (tNot' (tt (eCh dLe dLt (eC (.int 0)) (eVar 6) (e1 dLen (eVar 1))))))) (sRet (eC (.bl false))) sNil) (sSeq (sSet 7 (eC (.int 3))) (sSeq (sFor (iOf (eCall (c .ways_of) (aCons (eVar 5) (aCons (eVar 6) aNil)))) (gN 8) (b_pair_right_1 c)) (sRet (eC (.bl true))))))))
def b_way_right (c : Fn → List D → R) : Sl → Out := (sSeq (sIf (tt (e2 dEq (eIx (eVar 2) (eC (.int 0))) (eC (.str "chain")))) (sRet (eCall (c .leaf_right) (aCons (eVar 0) (aCons (eVar 1) (aCons (eVar 2) (aCons (eVar 3) (aCons (eVar 4) aNil))))))) sNil) (sSeq (sIf (tt (e2 dEq (eIx (eVar 2) (eC (.int 0))) (eC (.str "turn")))) (sRet (eCall (c .turn_right) (aCons (eVar 0) (aCons (eVar 1) (aCons (eVar 2) (aCons (eVar 3) (aCons (eVar 4) aNil))))))) sNil) (sRet (eCall (c .pair_right) (aCons (eVar 0) (aCons (eVar 1) (aCons (eVar 2) (aCons (eVar 3) (aCons (eVar 4) aNil)))))))))
def b_bars_all (c : Fn → List D → R) : Sl → Out := (sRet (eCall (c .way_right) (aCons (eVar 0) (aCons (eVar 1) (aCons (eVar 2) (aCons (eC (.dic [] [])) (aCons (eLst aNil) aNil)))))))
def b_law_cell (c : Fn → List D → R) : Sl → Out := (sSeq (sIf (tt (e2 dLt (eVar 1) (e1 dLen (eVar 0)))) (sRet (eIx (eVar 0) (eVar 1))) sNil) (sRet (eC (.int 0))))
def b_law_sides (c : Fn → List D → R) : Sl → Out := (sSeq (sIf (tt (eVar 1)) (sRet (eTup (aCons (eIx (eVar 0) (eC (.int 1))) (aCons (eIx (eVar 0) (eC (.int 0))) aNil)))) sNil) (sRet (eTup (aCons (eIx (eVar 0) (eC (.int 0))) (aCons (eIx (eVar 0) (eC (.int 1))) aNil)))))
def b_law_two (c : Fn → List D → R) : Sl → Out := (sRet (eAnd (eIx (eVar 0) (eC (.int 2))) (e2 dNe (eIx (eVar 0) (eC (.int 0))) (eIx (eVar 0) (eC (.int 1))))))
def b_law_whole (c : Fn → List D → R) : Sl → Out := (sRet (eAnd (e1 (dIs "int") (eVar 0)) (eNot (e1 (dIs "bool") (eVar 0)))))
def b_law_leaf_1 (c : Fn → List D → R) : Sl → Out := (sSeq (sIf (tOr' (tNot' (tt (eCall (c .law_whole) (aCons (eVar 8) aNil)))) (tNot' (tt (eCh dLe dLt (eC (.int 0)) (eVar 8) (e1 dLen (eVar 1)))))) (sRet (eC (.bl false))) sNil) (sSeq (sIf (tAnd' (tt (eCall (c .law_two) (aCons (eIx (eVar 1) (eVar 8)) aNil))) (tt (eIn true (eVar 8) (eVar 3)))) (sRet (eC (.bl false))) sNil) (sSeq (sIf (tAnd' (tt (e2 dNotN (eVar 7) (eC .non))) (tt (eIn true (eTup (aCons (eIx (eVar 2) (eC (.int 1))) (aCons (eVar 7) (aCons (eVar 8) aNil)))) (eVar 4)))) (sRet (eC (.bl false))) sNil) (sSeq (sSet 6 (e2 dAdd (eVar 6) (eIx (eCall (c .law_sides) (aCons (eIx (eVar 1) (eVar 8)) (aCons (eGet (eVar 3) (eVar 8) (eC (.bl false))) aNil))) (eVar 5)))) (sSet 7 (eVar 8))))))
def b_law_leaf (c : Fn → List D → R) : Sl → Out := (sSeq (sIf (tOr' (tt (e2 dNe (e1 dLen (eVar 2)) (eC (.int 3)))) (tOr' (tt (eIn true (eIx (eVar 2) (eC (.int 1))) (eTup (aCons (eC (.str "across")) (aCons (eC (.str "up")) aNil))))) (tOr' (tNot' (tt (e1 (dIs "list") (eIx (eVar 2) (eC (.int 2)))))) (tt (e2 dEq (e1 dLen (eIx (eVar 2) (eC (.int 2)))) (eC (.int 0))))))) (sRet (eC (.bl false))) sNil) (sSeq (sSet 5 (eCall dInt (aCons (e2 dEq (eIx (eVar 2) (eC (.int 1))) (eC (.str "up"))) aNil))) (sSeq (sSet 6 (eC (.int 0))) (sSeq (sSet 7 (eC .non)) (sSeq (sFor (iOf (eIx (eVar 2) (eC (.int 2)))) (gN 8) (b_law_leaf_1 c)) (sRet (e2 dGt (eVar 6) (eIx (eVar 0) (eVar 5)))))))))
def b_law_turn_1 (c : Fn → List D → R) : Sl → Out := (sSeq (sSet 8 (e1 dDict (eVar 3))) (sSeq (sSetIx 8 (eVar 6) (eVar 7)) (sIf (tNot' (tt (eCall (c .law_bars) (aCons (eVar 0) (aCons (eVar 1) (aCons (eIx (eVar 2) (e2 dAdd (eC (.int 2)) (eCall dInt (aCons (eVar 7) aNil)))) (aCons (eVar 8) (aCons (eVar 4) (aCons (e2 dSub (eVar 5) (eC (.int 1))) aNil))))))))) (sRet (eC (.bl false))) sNil)))
def b_law_turn (c : Fn → List D → R) : Sl → Out := (sSeq (sSet 6 (eIx (eVar 2) (eC (.int 1)))) (sSeq (sIf (tOr' (tt (e2 dNe (e1 dLen (eVar 2)) (eC (.int 4)))) (tOr' (tNot' (tt (eCall (c .law_whole) (aCons (eVar 6) aNil)))) (tNot' (tt (eCh dLe dLt (eC (.int 0)) (eVar 6) (e1 dLen (eVar 1))))))) (sRet (eC (.bl false))) sNil) (sSeq (sIf (tOr' (tt (eIn false (eVar 6) (eVar 3))) (tNot' (tt (eCall (c .law_two) (aCons (eIx (eVar 1) (eVar 6)) aNil))))) (sRet (eC (.bl false))) sNil) (sSeq (sFor (iOf (eTup (aCons (eC (.bl false)) (aCons (eC (.bl true)) aNil)))) (gN 7) (b_law_turn_1 c)) (sRet (eC (.bl true)))))))
def b_law_bars_1 (c : Fn → List D → R) : Sl → Out := (sIf (tNot' (tt (eCall (c .law_bars) (aCons (eVar 0) (aCons (eVar 1) (aCons (eIx (eVar 2) (e2 dAdd (eC (.int 3)) (eVar 9))) (aCons (eVar 3) (aCons (e2 dAdd (eVar 4) (eLst (aCons (eIx (eVar 8) (eVar 9)) aNil))) (aCons (e2 dSub (eVar 5) (eC (.int 1))) aNil))))))))) (sRet (eC (.bl false))) sNil)
def b_law_bars (c : Fn → List D → R) : Sl → Out := (sSeq (sIf (tOr' (tNot' (tt (e1 (dIs "tuple") (eVar 2)))) (tOr' (tt (e2 dLt (e1 dLen (eVar 2)) (eC (.int 3)))) (tt (e2 dEq (eVar 5) (eC (.int 0)))))) (sRet (eC (.bl false))) sNil) (sSeq (sIf (tt (e2 dEq (eIx (eVar 2) (eC (.int 0))) (eC (.str "chain")))) (sRet (eCall (c .law_leaf) (aCons (eVar 0) (aCons (eVar 1) (aCons (eVar 2) (aCons (eVar 3) (aCons (eVar 4) aNil))))))) sNil) (sSeq (sIf (tt (e2 dEq (eIx (eVar 2) (eC (.int 0))) (eC (.str "turn")))) (sRet (eCall (c .law_turn) (aCons (eVar 0) (aCons (eVar 1) (aCons (eVar 2) (aCons (eVar 3) (aCons (eVar 4) (aCons (eVar 5) aNil)))))))) sNil) (sSeq (sSet 6 (eIx (eVar 2) (eC (.int 1)))) (sSeq (sSet 7 (eIx (eVar 2) (eC (.int 2)))) (sSeq (sIf (tOr' (tt (e2 dNe (eIx (eVar 2) (eC (.int 0))) (eC (.str "pair")))) (tOr' (tt (e2 dNe (e1 dLen (eVar 2)) (eC (.int 7)))) (tOr' (tNot' (tt (eCall (c .law_whole) (aCons (eVar 6) aNil)))) (tOr' (tNot' (tt (eCall (c .law_whole) (aCons (eVar 7) aNil)))) (tt (e2 dEq (eVar 6) (eVar 7))))))) (sRet (eC (.bl false))) sNil) (sSeq (sIf (tOr' (tNot' (tt (eCh dLe dLt (eC (.int 0)) (eVar 6) (e1 dLen (eVar 1))))) (tNot' (tt (eCh dLe dLt (eC (.int 0)) (eVar 7) (e1 dLen (eVar 1)))))) (sRet (eC (.bl false))) sNil) (sSeq (sSet 8 (eLst (aCons (eTup (aCons (eC (.str "across")) (aCons (eVar 6) (aCons (eVar 7) aNil)))) (aCons (eTup (aCons (eC (.str "across")) (aCons (eVar 7) (aCons (eVar 6) aNil)))) (aCons (eTup (aCons (eC (.str "up")) (aCons (eVar 6) (aCons (eVar 7) aNil)))) (aCons (eTup (aCons (eC (.str "up")) (aCons (eVar 7) (aCons (eVar 6) aNil)))) aNil)))))) (sSeq (sFor (iCall iRan1 (aCons (eC (.int 4)) aNil)) (gN 9) (b_law_bars_1 c)) (sRet (eC (.bl true))))))))))))
def b_law_copy_1 (c : Fn → List D → R) : Sl → R := (eCall (c .law_copy) (aCons (eVar 1) aNil))
def b_law_copy (c : Fn → List D → R) : Sl → Out := (sSeq (sIf (tt (e1 (dIs "tuple") (eVar 0))) (sRet (e1 dTuple (eLc [1] (iOf (eVar 0)) (gN 1) tAll (b_law_copy_1 c)))) sNil) (sSeq (sIf (tt (e1 (dIs "list") (eVar 0))) (sRet (e1 dList (eVar 0))) sNil) (sRet (eVar 0))))
def b_law_leaf_drawn_1 (c : Fn → List D → R) : Sl → R := (e2 dSub (e2 dMod (e2 dDiv (eVar 0) (e2 dAdd (eC (.int 16)) (e2 dMulI (eC (.int 7)) (eVar 6)))) (e2 dAdd (eVar 2) (eC (.int 2)))) (eC (.int 1)))
def b_law_leaf_drawn (c : Fn → List D → R) : Sl → Out := (sSeq (sIf (tAnd' (tt (e2 dGt (e1 dLen (eVar 1)) (eC (.int 0)))) (tOr' (tt (eVar 3)) (tt (e2 dLt (e2 dMod (eVar 0) (eC (.int 8))) (eC (.int 5)))))) (sSeq (sSet 4 (eIx (eVar 1) (e2 dSub (e2 dSub (e1 dLen (eVar 1)) (eC (.int 1))) (e2 dMod (e2 dDiv (eVar 0) (eC (.int 8))) (eCall dMin2 (aCons (eC (.int 2)) (aCons (e1 dLen (eVar 1)) aNil))))))) (sRet (eTup (aCons (eC (.str "chain")) (aCons (eIx (eVar 4) (eC (.int 0))) (aCons (eLst (aCons (eIx (eVar 4) (eC (.int 1))) (aCons (eIx (eVar 4) (eC (.int 2))) aNil))) aNil)))))) sNil) (sSeq (sSet 5 (eIx (eTup (aCons (eC (.str "across")) (aCons (eC (.str "up")) aNil))) (e2 dMod (e2 dDiv (eVar 0) (eC (.int 8))) (eC (.int 2))))) (sRet (eTup (aCons (eC (.str "chain")) (aCons (eVar 5) (aCons (eLc [6] (iCall iRan1 (aCons (e2 dMod (e2 dDiv (eVar 0) (eC (.int 4))) (eC (.int 3))) aNil)) (gN 6) tAll (b_law_leaf_drawn_1 c)) aNil)))))))
def b_law_drawn_1 (c : Fn → List D → R) : Sl → R := (eCall (c .law_drawn) (aCons (eVar 0) (aCons (e2 dAdd (e2 dMulI (eVar 1) (eC (.int 4))) (eVar 9)) (aCons (e2 dSub (eVar 2) (eC (.int 1))) (aCons (eVar 3) (aCons (eVar 4) (aCons (eVar 5) aNil)))))))
def b_law_drawn_2 (c : Fn → List D → R) : Sl → Out := (sApp 8 (eCall (c .law_drawn) (aCons (eVar 0) (aCons (e2 dAdd (e2 dAdd (e2 dMulI (eVar 1) (eC (.int 4))) (eC (.int 1))) (e1 dLen (eVar 8))) (aCons (e2 dSub (eVar 2) (eC (.int 1))) (aCons (eVar 3) (aCons (e2 dAdd (eVar 4) (eLst (aCons (eVar 12) aNil))) (aCons (eVar 5) aNil))))))))
def b_law_drawn (c : Fn → List D → R) : Sl → Out := (sSeq (sSet 6 (e2 dAdd (e2 dMod (e2 dMulI (eCall (c .law_cell) (aCons (eVar 0) (aCons (e2 dAdd (eC (.int 8)) (e2 dMod (eVar 1) (eC (.int 50)))) aNil))) (eC (.int 48271))) (eC (.int 1000003))) (e2 dMod (e2 dMulI (e2 dMulI (eC (.int 7919)) (eVar 1)) (eVar 1)) (eC (.int 1009))))) (sSeq (sSet 7 (e2 dMod (eVar 6) (eC (.int 6)))) (sSeq (sSet 6 (e2 dDiv (eVar 6) (eC (.int 6)))) (sSeq (sIf (tOr' (tt (e2 dEq (eVar 2) (eC (.int 0)))) (tAnd' (tt (e2 dEq (eVar 7) (eC (.int 0)))) (tNot' (tt (eVar 5))))) (sRet (eCall (c .law_leaf_drawn) (aCons (eVar 6) (aCons (eVar 4) (aCons (eVar 3) (aCons (eVar 5) aNil)))))) sNil) (sSeq (sIf (tAnd' (tt (e2 dEq (eVar 7) (eC (.int 1)))) (tNot' (tt (eVar 5)))) (sSeq (sSet 8 (eLc [9] (iOf (eTup (aCons (eC (.int 1)) (aCons (eC (.int 2)) aNil)))) (gN 9) tAll (b_law_drawn_1 c))) (sRet (eTup (aCons (eC (.str "turn")) (aCons (e2 dSub (e2 dMod (eVar 6) (e2 dAdd (eVar 3) (eC (.int 2)))) (eC (.int 1))) (aCons (eIx (eVar 8) (eC (.int 0))) (aCons (eIx (eVar 8) (eC (.int 1))) aNil))))))) sNil) (sSeq (sSet 10 (e2 dSub (e2 dMod (eVar 6) (e2 dAdd (eVar 3) (eC (.int 2)))) (eC (.int 1)))) (sSeq (sSet 11 (e2 dSub (e2 dMod (e2 dDiv (eVar 6) (e2 dAdd (eVar 3) (eC (.int 2)))) (e2 dAdd (eVar 3) (eC (.int 2)))) (eC (.int 1)))) (sSeq (sIf (tt (eVar 5)) (sSeq (sSet 10 (e2 dMod (eVar 6) (eVar 3))) (sSet 11 (e2 dMod (e2 dAdd (e2 dAdd (eVar 10) (eC (.int 1))) (e2 dMod (e2 dDiv (eVar 6) (eVar 3)) (eCall dMax2 (aCons (eC (.int 1)) (aCons (e2 dSub (eVar 3) (eC (.int 1))) aNil))))) (eVar 3)))) sNil) (sSeq (sSet 8 (eLst aNil)) (sSeq (sFor (iOf (eLst (aCons (eTup (aCons (eC (.str "across")) (aCons (eVar 10) (aCons (eVar 11) aNil)))) (aCons (eTup (aCons (eC (.str "across")) (aCons (eVar 11) (aCons (eVar 10) aNil)))) (aCons (eTup (aCons (eC (.str "up")) (aCons (eVar 10) (aCons (eVar 11) aNil)))) (aCons (eTup (aCons (eC (.str "up")) (aCons (eVar 11) (aCons (eVar 10) aNil)))) aNil)))))) (gN 12) (b_law_drawn_2 c)) (sRet (eTup (aCons (eC (.str "pair")) (aCons (eVar 10) (aCons (eVar 11) (aCons (eIx (eVar 8) (eC (.int 0))) (aCons (eIx (eVar 8) (eC (.int 1))) (aCons (eIx (eVar 8) (eC (.int 2))) (aCons (eIx (eVar 8) (eC (.int 3))) aNil)))))))))))))))))))
def b_law_four (c : Fn → List D → R) : Sl → Out := sRet (eLst (aCons (eTup (aCons (eC (.str "chain")) (aCons (eC (.str "across")) (aCons (eLst (aCons (eVar 0) (aCons (eVar 1) aNil))) aNil)))) (aCons (eTup (aCons (eC (.str "chain")) (aCons (eC (.str "across")) (aCons (eLst (aCons (eVar 1) (aCons (eVar 0) aNil))) aNil)))) (aCons (eTup (aCons (eC (.str "chain")) (aCons (eC (.str "up")) (aCons (eLst (aCons (eVar 0) (aCons (eVar 1) aNil))) aNil)))) (aCons (eTup (aCons (eC (.str "chain")) (aCons (eC (.str "up")) (aCons (eLst (aCons (eVar 1) (aCons (eVar 0) aNil))) aNil)))) aNil)))))
def b_law_deep_1 (c : Fn → List D → R) : Sl → Out := (sSeq (sSet 5 (e2 dMod (eVar 0) (eC (.int 2)))) (sSeq (sSet 6 (e2 dMod (e2 dDiv (eVar 0) (eC (.int 2))) (eC (.int 4)))) (sSeq (sSet 0 (e2 dDiv (eVar 0) (eC (.int 8)))) (sSeq (sSet 7 (eCall (c .law_four) (aCons (eVar 5) (aCons (e2 dSub (eC (.int 1)) (eVar 5)) aNil)))) (sSeq (sIf (tt (e2 dGt (eVar 4) (eC (.int 0)))) (sSetIx 7 (eVar 6) (eVar 3)) (sIf (tt (e2 dGt (eVar 2) (eC (.int 0)))) (sSeq (sUnp (gT 2 (gsCons (gN 8) (gsCons (gN 9) gsNil))) (eSl (eIx (eVar 7) (eVar 6)) (pSome (eC (.int 1))) pNone)) (sSeq (sSet 10 (eLst (aCons (eVar 9) (aCons (eLst aNil) (aCons (eLst (aCons (eIx (eVar 9) (eC (.int 1))) (aCons (eIx (eVar 9) (eC (.int 0))) aNil))) (aCons (eLst (aCons (eIx (eVar 9) (eC (.int 0))) (aCons (eC (.int 2)) aNil))) (aCons (e2 dAdd (eVar 9) (eVar 9)) aNil))))))) (sSetIx 7 (eVar 6) (eTup (aCons (eC (.str "chain")) (aCons (eVar 8) (aCons (eIx (eVar 10) (eVar 2)) aNil))))))) sNil)) (sSet 3 (eTup (aCons (eC (.str "pair")) (aCons (eVar 5) (aCons (e2 dSub (eC (.int 1)) (eVar 5)) (aCons (eIx (eVar 7) (eC (.int 0))) (aCons (eIx (eVar 7) (eC (.int 1))) (aCons (eIx (eVar 7) (eC (.int 2))) (aCons (eIx (eVar 7) (eC (.int 3))) aNil))))))))))))))
def b_law_deep (c : Fn → List D → R) : Sl → Out := (sSeq (sSet 3 (eTup (aCons (eC (.str "chain")) (aCons (eC (.str "across")) (aCons (eLst (aCons (eC (.int 0)) (aCons (eC (.int 1)) aNil))) aNil))))) (sSeq (sFor (iCall iRan1 (aCons (eVar 1) aNil)) (gN 4) (b_law_deep_1 c)) (sRet (eVar 3))))
def b_law_deep_right_1 (c : Fn → List D → R) : Sl → R := (eCall (c .law_ware) (aCons (eCall (c .law_cell) (aCons (eVar 0) (aCons (e2 dAdd (eC (.int 3)) (eVar 3)) aNil))) (aCons (eVar 1) (aCons (eC (.bl false)) aNil))))
def b_law_deep_right (c : Fn → List D → R) : Sl → Out := (sSeq (sSet 2 (eLc [3] (iCall iRan1 (aCons (eC (.int 2)) aNil)) (gN 3) tAll (b_law_deep_right_1 c))) (sSeq (sSet 4 (eCall (c .law_cell) (aCons (eVar 0) (aCons (eC (.int 58)) aNil)))) (sSeq (sSet 5 (eTup (aCons (e2 dAdd (e2 dSub (e2 dAdd (eIx (eIx (eVar 2) (eC (.int 0))) (eC (.int 0))) (eIx (eIx (eVar 2) (eC (.int 1))) (eC (.int 0)))) (eC (.int 1))) (e2 dDiv (e2 dMod (eVar 4) (eC (.int 4))) (eC (.int 3)))) (aCons (e2 dAdd (e2 dSub (e2 dAdd (eIx (eIx (eVar 2) (eC (.int 0))) (eC (.int 1))) (eIx (eIx (eVar 2) (eC (.int 1))) (eC (.int 1)))) (eC (.int 1))) (e2 dDiv (e2 dMod (e2 dDiv (eVar 4) (eC (.int 4))) (eC (.int 4))) (eC (.int 3)))) aNil)))) (sSeq (sSet 6 (eCall (c .law_deep) (aCons (eCall (c .law_cell) (aCons (eVar 0) (aCons (eC (.int 59)) aNil))) (aCons (e2 dMod (e2 dAdd (eCall (c .law_cell) (aCons (eVar 0) (aCons (eC (.int 0)) aNil))) (e2 dDiv (eVar 4) (eC (.int 16)))) (eC (.int 40))) (aCons (e2 dMod (e2 dMod (eCall (c .law_cell) (aCons (eVar 0) (aCons (eC (.int 60)) aNil))) (eC (.int 8))) (eC (.int 5))) aNil))))) (sSeq (sSet 7 (eCall (c .law_bars) (aCons (eVar 5) (aCons (eVar 2) (aCons (eVar 6) (aCons (eC (.dic [] [])) (aCons (eLst aNil) (aCons (eC (.int 41)) aNil)))))))) (sSeq (sSet 8 (eCall (c .law_copy) (aCons (eVar 6) aNil))) (sSeq (sSet 9 (eCall (c .bars_all) (aCons (eVar 5) (aCons (e1 dList (eVar 2)) (aCons (eVar 6) aNil))))) (sRet (eAnd (e1 (dIs "bool") (eVar 9)) (eAnd (e2 dEq (eVar 9) (eVar 7)) (e2 dEq (eVar 6) (eVar 8))))))))))))
def b_law_ware (c : Fn → List D → R) : Sl → Out := (sSeq (sSet 3 (e2 dAdd (e2 dMulI (eVar 1) (e2 dAdd (eC (.int 1)) (e2 dMod (eVar 0) (eC (.int 5))))) (e2 dMod (e2 dDiv (eVar 0) (eC (.int 50))) (eC (.int 3))))) (sSeq (sSet 4 (e2 dAdd (e2 dMulI (eVar 1) (e2 dAdd (eC (.int 1)) (e2 dMod (e2 dDiv (eVar 0) (eC (.int 5))) (eC (.int 5))))) (e2 dMod (e2 dDiv (eVar 0) (eC (.int 150))) (eC (.int 3))))) (sRet (eTup (aCons (eVar 3) (aCons (eVar 4) (aCons (eAnd (eVar 2) (e2 dEq (e2 dMod (e2 dDiv (eVar 0) (eC (.int 25))) (eC (.int 2))) (eC (.int 1)))) aNil)))))))
def b_law_1 (c : Fn → List D → R) : Sl → R := (eCall (c .law_ware) (aCons (eCall (c .law_cell) (aCons (eVar 0) (aCons (e2 dAdd (eC (.int 3)) (eVar 5)) aNil))) (aCons (eVar 3) (aCons (eNot (eVar 2)) aNil))))
def b_law_2 (c : Fn → List D → R) : Sl → R := (eCall dMax2 (aCons (eIx (eVar 8) (eC (.int 0))) (aCons (eIx (eVar 8) (eC (.int 1))) aNil)))
def b_law_3 (c : Fn → List D → R) : Sl → Out := (sSeq (sSet 14 (eCall (c .bars_all) (aCons (eVar 6) (aCons (eVar 12) (aCons (eVar 9) aNil))))) (sIf (tOr' (tNot' (tt (e1 (dIs "bool") (eVar 14)))) (tt (e2 dNe (eVar 14) (eVar 10)))) (sRet (eC (.bl false))) sNil))
def b_law (c : Fn → List D → R) : Sl → Out := (sSeq (sSet 1 (e2 dAdd (eC (.int 1)) (e2 dMod (eCall (c .law_cell) (aCons (eVar 0) (aCons (eC (.int 0)) aNil))) (eC (.int 3))))) (sSeq (sSet 2 (e2 dEq (e2 dMod (e2 dDiv (eCall (c .law_cell) (aCons (eVar 0) (aCons (eC (.int 0)) aNil))) (eC (.int 3))) (eC (.int 2))) (eC (.int 1)))) (sSeq (sSet 3 (e2 dAdd (eC (.int 1)) (e2 dMod (eCall (c .law_cell) (aCons (eVar 0) (aCons (eC (.int 1)) aNil))) (e2 dPow (eC (.int 10)) (eC (.int 38)))))) (sSeq (sSet 4 (eLc [5] (iCall iRan1 (aCons (eVar 1) aNil)) (gN 5) tAll (b_law_1 c))) (sSeq (sSet 6 (eTup (aCons (e2 dMod (eCall (c .law_cell) (aCons (eVar 0) (aCons (eC (.int 2)) aNil))) (e2 dMulI (eC (.int 9)) (eVar 3))) (aCons (e2 dMod (eCall (c .law_cell) (aCons (eVar 0) (aCons (eC (.int 7)) aNil))) (e2 dMulI (eC (.int 9)) (eVar 3))) aNil)))) (sSeq (sIf (tt (e2 dEq (e2 dMod (eCall (c .law_cell) (aCons (eVar 0) (aCons (eC (.int 1)) aNil))) (eC (.int 3))) (eC (.int 0)))) (sSeq (sSet 7 (e1 dMax (eLc [8] (iOf (eVar 4)) (gN 8) tAll (b_law_2 c)))) (sSet 6 (eTup (aCons (eVar 7) (aCons (eVar 7) aNil))))) sNil) (sSeq (sSet 9 (eCall (c .law_drawn) (aCons (eVar 0) (aCons (eC (.int 0)) (aCons (e2 dAdd (eC (.int 1)) (e2 dMod (e2 dDiv (eCall (c .law_cell) (aCons (eVar 0) (aCons (eC (.int 0)) aNil))) (eC (.int 6))) (eC (.int 3)))) (aCons (eVar 1) (aCons (eLst aNil) (aCons (eVar 2) aNil)))))))) (sSeq (sSet 10 (eCall (c .law_bars) (aCons (eVar 6) (aCons (eVar 4) (aCons (eVar 9) (aCons (eC (.dic [] [])) (aCons (eLst aNil) (aCons (eC (.int 41)) aNil)))))))) (sSeq (sSet 11 (eCall (c .law_copy) (aCons (eVar 9) aNil))) (sSeq (sSet 12 (e1 dList (eVar 4))) (sSeq (sFor (iCall iRan1 (aCons (eC (.int 2)) aNil)) (gN 13) (b_law_3 c)) (sRet (eAnd (e2 dEq (eVar 9) (eVar 11)) (eAnd (e2 dEq (eVar 12) (eVar 4)) (eCall (c .law_deep_right) (aCons (eVar 0) (aCons (eVar 3) aNil)))))))))))))))))
def run : Nat → Fn → List D → R
  | 0, _, _ => .bad
  | n + 1, .sides_of, ds => runB 2 2 (b_sides_of (run n)) ds
  | n + 1, .lies_of, ds => runB 1 1 (b_lies_of (run n)) ds
  | n + 1, .ways_of, ds => runB 2 2 (b_ways_of (run n)) ds
  | n + 1, .side_of_box, ds => runB 2 2 (b_side_of_box (run n)) ds
  | n + 1, .chain_total, ds => runB 7 4 (b_chain_total (run n)) ds
  | n + 1, .leaf_right, ds => runB 10 5 (b_leaf_right (run n)) ds
  | n + 1, .turn_right, ds => runB 8 5 (b_turn_right (run n)) ds
  | n + 1, .pair_right, ds => runB 9 5 (b_pair_right (run n)) ds
  | n + 1, .way_right, ds => runB 5 5 (b_way_right (run n)) ds
  | n + 1, .bars_all, ds => runB 3 3 (b_bars_all (run n)) ds
  | n + 1, .law_cell, ds => runB 2 2 (b_law_cell (run n)) ds
  | n + 1, .law_sides, ds => runB 2 2 (b_law_sides (run n)) ds
  | n + 1, .law_two, ds => runB 1 1 (b_law_two (run n)) ds
  | n + 1, .law_whole, ds => runB 1 1 (b_law_whole (run n)) ds
  | n + 1, .law_leaf, ds => runB 9 5 (b_law_leaf (run n)) ds
  | n + 1, .law_turn, ds => runB 9 6 (b_law_turn (run n)) ds
  | n + 1, .law_bars, ds => runB 10 6 (b_law_bars (run n)) ds
  | n + 1, .law_copy, ds => runB 2 1 (b_law_copy (run n)) ds
  | n + 1, .law_leaf_drawn, ds => runB 7 4 (b_law_leaf_drawn (run n)) ds
  | n + 1, .law_drawn, ds => runB 13 6 (b_law_drawn (run n)) ds
  | n + 1, .law_four, ds => runB 2 2 (b_law_four (run n)) ds
  | n + 1, .law_deep, ds => runB 11 3 (b_law_deep (run n)) ds
  | n + 1, .law_deep_right, ds => runB 10 2 (b_law_deep_right (run n)) ds
  | n + 1, .law_ware, ds => runB 5 3 (b_law_ware (run n)) ds
  | n + 1, .law, ds => runB 15 1 (b_law (run n)) ds
end
theorem r_sides_of (n : Nat) (x0 x1 : D) : run (n + 1) .sides_of [x0, x1] = oEnd (b_sides_of (run n) [some x0, some x1]) := rfl
theorem r_lies_of (n : Nat) (x0 : D) : run (n + 1) .lies_of [x0] = oEnd (b_lies_of (run n) [some x0]) := rfl
theorem r_ways_of (n : Nat) (x0 x1 : D) : run (n + 1) .ways_of [x0, x1] = oEnd (b_ways_of (run n) [some x0, some x1]) := rfl
theorem r_side_of_box (n : Nat) (x0 x1 : D) : run (n + 1) .side_of_box [x0, x1] = oEnd (b_side_of_box (run n) [some x0, some x1]) := rfl
theorem u_chain_total_1 (c : Fn → List D → R) (ρ : Sl) : b_chain_total_1 c ρ = (sSeq (sSet 6 (eCall (c .sides_of) (aCons (eIx (eVar 0) (eVar 5)) (aCons (eGet (eVar 1) (eVar 5) (eC (.bl false))) aNil)))) (sSet 4 (e2 dAdd (eVar 4) (eCall (c .side_of_box) (aCons (eVar 6) (aCons (eVar 2) aNil)))))) ρ := rfl
theorem r_chain_total (n : Nat) (x0 x1 x2 x3 : D) : run (n + 1) .chain_total [x0, x1, x2, x3] = oEnd (b_chain_total (run n) [some x0, some x1, some x2, some x3, none, none, none]) := rfl
theorem u_leaf_right_1 (c : Fn → List D → R) (ρ : Sl) : b_leaf_right_1 c ρ = (sSeq (sIf (tNot' (tt (eCh dLe dLt (eC (.int 0)) (eVar 7) (e1 dLen (eVar 1))))) (sRet (eC (.bl false))) sNil) (sIf (tAnd' (tt (e2 dEq (e1 dLen (eCall (c .lies_of) (aCons (eIx (eVar 1) (eVar 7)) aNil))) (eC (.int 2)))) (tt (eIn true (eVar 7) (eVar 3)))) (sRet (eC (.bl false))) sNil)) ρ := rfl
theorem u_leaf_right_2 (c : Fn → List D → R) (ρ : Sl) : b_leaf_right_2 c ρ = (sIf (tt (eIn true (eTup (aCons (eVar 5) (aCons (eVar 8) (aCons (eVar 9) aNil)))) (eVar 4))) (sRet (eC (.bl false))) sNil) ρ := rfl
theorem r_leaf_right (n : Nat) (x0 x1 x2 x3 x4 : D) : run (n + 1) .leaf_right [x0, x1, x2, x3, x4] = oEnd (b_leaf_right (run n) [some x0, some x1, some x2, some x3, some x4, none, none, none, none, none]) := rfl
theorem u_turn_right_1 (c : Fn → List D → R) (ρ : Sl) : b_turn_right_1 c ρ = (sSeq (sSet 7 (e1 dDict (eVar 3))) (sSeq (sSetIx 7 (eVar 5) (eVar 6)) (sIf (tNot' (tt (eCall (c .way_right) (aCons (eVar 0) (aCons (eVar 1) (aCons (eIx (eVar 2) (e2 dAdd (eC (.int 2)) (eCall dInt (aCons (eVar 6) aNil)))) (aCons (eVar 7) (aCons (eVar 4) aNil)))))))) (sRet (eC (.bl false))) sNil))) ρ := rfl
theorem r_turn_right (n : Nat) (x0 x1 x2 x3 x4 : D) : run (n + 1) .turn_right [x0, x1, x2, x3, x4] = oEnd (b_turn_right (run n) [some x0, some x1, some x2, some x3, some x4, none, none, none]) := rfl
theorem u_pair_right_1 (c : Fn → List D → R) (ρ : Sl) : b_pair_right_1 c ρ = (sSeq (sIf (tNot' (tt (eCall (c .way_right) (aCons (eVar 0) (aCons (eVar 1) (aCons (eIx (eVar 2) (eVar 7)) (aCons (eVar 3) (aCons (e2 dAdd (eVar 4) (eLst (aCons (eVar 8) aNil))) aNil)))))))) (sRet (eC (.bl false))) sNil) (sSet 7 (e2 dAdd (eVar 7) (eC (.int 1))))) ρ := rfl
theorem r_pair_right (n : Nat) (x0 x1 x2 x3 x4 : D) : run (n + 1) .pair_right [x0, x1, x2, x3, x4] = oEnd (b_pair_right (run n) [some x0, some x1, some x2, some x3, some x4, none, none, none, none]) := rfl
theorem r_way_right (n : Nat) (x0 x1 x2 x3 x4 : D) : run (n + 1) .way_right [x0, x1, x2, x3, x4] = oEnd (b_way_right (run n) [some x0, some x1, some x2, some x3, some x4]) := rfl
theorem r_bars_all (n : Nat) (x0 x1 x2 : D) : run (n + 1) .bars_all [x0, x1, x2] = oEnd (b_bars_all (run n) [some x0, some x1, some x2]) := rfl
theorem r_law_cell (n : Nat) (x0 x1 : D) : run (n + 1) .law_cell [x0, x1] = oEnd (b_law_cell (run n) [some x0, some x1]) := rfl
theorem r_law_sides (n : Nat) (x0 x1 : D) : run (n + 1) .law_sides [x0, x1] = oEnd (b_law_sides (run n) [some x0, some x1]) := rfl
theorem r_law_two (n : Nat) (x0 : D) : run (n + 1) .law_two [x0] = oEnd (b_law_two (run n) [some x0]) := rfl
theorem r_law_whole (n : Nat) (x0 : D) : run (n + 1) .law_whole [x0] = oEnd (b_law_whole (run n) [some x0]) := rfl
theorem u_law_leaf_1 (c : Fn → List D → R) (ρ : Sl) : b_law_leaf_1 c ρ = (sSeq (sIf (tOr' (tNot' (tt (eCall (c .law_whole) (aCons (eVar 8) aNil)))) (tNot' (tt (eCh dLe dLt (eC (.int 0)) (eVar 8) (e1 dLen (eVar 1)))))) (sRet (eC (.bl false))) sNil) (sSeq (sIf (tAnd' (tt (eCall (c .law_two) (aCons (eIx (eVar 1) (eVar 8)) aNil))) (tt (eIn true (eVar 8) (eVar 3)))) (sRet (eC (.bl false))) sNil) (sSeq (sIf (tAnd' (tt (e2 dNotN (eVar 7) (eC .non))) (tt (eIn true (eTup (aCons (eIx (eVar 2) (eC (.int 1))) (aCons (eVar 7) (aCons (eVar 8) aNil)))) (eVar 4)))) (sRet (eC (.bl false))) sNil) (sSeq (sSet 6 (e2 dAdd (eVar 6) (eIx (eCall (c .law_sides) (aCons (eIx (eVar 1) (eVar 8)) (aCons (eGet (eVar 3) (eVar 8) (eC (.bl false))) aNil))) (eVar 5)))) (sSet 7 (eVar 8)))))) ρ := rfl
theorem r_law_leaf (n : Nat) (x0 x1 x2 x3 x4 : D) : run (n + 1) .law_leaf [x0, x1, x2, x3, x4] = oEnd (b_law_leaf (run n) [some x0, some x1, some x2, some x3, some x4, none, none, none, none]) := rfl
theorem u_law_turn_1 (c : Fn → List D → R) (ρ : Sl) : b_law_turn_1 c ρ = (sSeq (sSet 8 (e1 dDict (eVar 3))) (sSeq (sSetIx 8 (eVar 6) (eVar 7)) (sIf (tNot' (tt (eCall (c .law_bars) (aCons (eVar 0) (aCons (eVar 1) (aCons (eIx (eVar 2) (e2 dAdd (eC (.int 2)) (eCall dInt (aCons (eVar 7) aNil)))) (aCons (eVar 8) (aCons (eVar 4) (aCons (e2 dSub (eVar 5) (eC (.int 1))) aNil))))))))) (sRet (eC (.bl false))) sNil))) ρ := rfl
theorem r_law_turn (n : Nat) (x0 x1 x2 x3 x4 x5 : D) : run (n + 1) .law_turn [x0, x1, x2, x3, x4, x5] = oEnd (b_law_turn (run n) [some x0, some x1, some x2, some x3, some x4, some x5, none, none, none]) := rfl
theorem u_law_bars_1 (c : Fn → List D → R) (ρ : Sl) : b_law_bars_1 c ρ = (sIf (tNot' (tt (eCall (c .law_bars) (aCons (eVar 0) (aCons (eVar 1) (aCons (eIx (eVar 2) (e2 dAdd (eC (.int 3)) (eVar 9))) (aCons (eVar 3) (aCons (e2 dAdd (eVar 4) (eLst (aCons (eIx (eVar 8) (eVar 9)) aNil))) (aCons (e2 dSub (eVar 5) (eC (.int 1))) aNil))))))))) (sRet (eC (.bl false))) sNil) ρ := rfl
theorem r_law_bars (n : Nat) (x0 x1 x2 x3 x4 x5 : D) : run (n + 1) .law_bars [x0, x1, x2, x3, x4, x5] = oEnd (b_law_bars (run n) [some x0, some x1, some x2, some x3, some x4, some x5, none, none, none, none]) := rfl
theorem u_law_copy_1 (c : Fn → List D → R) (ρ : Sl) : b_law_copy_1 c ρ = (eCall (c .law_copy) (aCons (eVar 1) aNil)) ρ := rfl
theorem r_law_copy (n : Nat) (x0 : D) : run (n + 1) .law_copy [x0] = oEnd (b_law_copy (run n) [some x0, none]) := rfl
theorem u_law_leaf_drawn_1 (c : Fn → List D → R) (ρ : Sl) : b_law_leaf_drawn_1 c ρ = (e2 dSub (e2 dMod (e2 dDiv (eVar 0) (e2 dAdd (eC (.int 16)) (e2 dMulI (eC (.int 7)) (eVar 6)))) (e2 dAdd (eVar 2) (eC (.int 2)))) (eC (.int 1))) ρ := rfl
theorem r_law_leaf_drawn (n : Nat) (x0 x1 x2 x3 : D) : run (n + 1) .law_leaf_drawn [x0, x1, x2, x3] = oEnd (b_law_leaf_drawn (run n) [some x0, some x1, some x2, some x3, none, none, none]) := rfl
theorem u_law_drawn_1 (c : Fn → List D → R) (ρ : Sl) : b_law_drawn_1 c ρ = (eCall (c .law_drawn) (aCons (eVar 0) (aCons (e2 dAdd (e2 dMulI (eVar 1) (eC (.int 4))) (eVar 9)) (aCons (e2 dSub (eVar 2) (eC (.int 1))) (aCons (eVar 3) (aCons (eVar 4) (aCons (eVar 5) aNil))))))) ρ := rfl
theorem u_law_drawn_2 (c : Fn → List D → R) (ρ : Sl) : b_law_drawn_2 c ρ = (sApp 8 (eCall (c .law_drawn) (aCons (eVar 0) (aCons (e2 dAdd (e2 dAdd (e2 dMulI (eVar 1) (eC (.int 4))) (eC (.int 1))) (e1 dLen (eVar 8))) (aCons (e2 dSub (eVar 2) (eC (.int 1))) (aCons (eVar 3) (aCons (e2 dAdd (eVar 4) (eLst (aCons (eVar 12) aNil))) (aCons (eVar 5) aNil)))))))) ρ := rfl
theorem r_law_drawn (n : Nat) (x0 x1 x2 x3 x4 x5 : D) : run (n + 1) .law_drawn [x0, x1, x2, x3, x4, x5] = oEnd (b_law_drawn (run n) [some x0, some x1, some x2, some x3, some x4, some x5, none, none, none, none, none, none, none]) := rfl
theorem r_law_four (n : Nat) (x0 x1 : D) : run (n + 1) .law_four [x0, x1] = oEnd (b_law_four (run n) [some x0, some x1]) := rfl
theorem u_law_deep_1 (c : Fn → List D → R) (ρ : Sl) : b_law_deep_1 c ρ = (sSeq (sSet 5 (e2 dMod (eVar 0) (eC (.int 2)))) (sSeq (sSet 6 (e2 dMod (e2 dDiv (eVar 0) (eC (.int 2))) (eC (.int 4)))) (sSeq (sSet 0 (e2 dDiv (eVar 0) (eC (.int 8)))) (sSeq (sSet 7 (eCall (c .law_four) (aCons (eVar 5) (aCons (e2 dSub (eC (.int 1)) (eVar 5)) aNil)))) (sSeq (sIf (tt (e2 dGt (eVar 4) (eC (.int 0)))) (sSetIx 7 (eVar 6) (eVar 3)) (sIf (tt (e2 dGt (eVar 2) (eC (.int 0)))) (sSeq (sUnp (gT 2 (gsCons (gN 8) (gsCons (gN 9) gsNil))) (eSl (eIx (eVar 7) (eVar 6)) (pSome (eC (.int 1))) pNone)) (sSeq (sSet 10 (eLst (aCons (eVar 9) (aCons (eLst aNil) (aCons (eLst (aCons (eIx (eVar 9) (eC (.int 1))) (aCons (eIx (eVar 9) (eC (.int 0))) aNil))) (aCons (eLst (aCons (eIx (eVar 9) (eC (.int 0))) (aCons (eC (.int 2)) aNil))) (aCons (e2 dAdd (eVar 9) (eVar 9)) aNil))))))) (sSetIx 7 (eVar 6) (eTup (aCons (eC (.str "chain")) (aCons (eVar 8) (aCons (eIx (eVar 10) (eVar 2)) aNil))))))) sNil)) (sSet 3 (eTup (aCons (eC (.str "pair")) (aCons (eVar 5) (aCons (e2 dSub (eC (.int 1)) (eVar 5)) (aCons (eIx (eVar 7) (eC (.int 0))) (aCons (eIx (eVar 7) (eC (.int 1))) (aCons (eIx (eVar 7) (eC (.int 2))) (aCons (eIx (eVar 7) (eC (.int 3))) aNil)))))))))))))) ρ := rfl
theorem r_law_deep (n : Nat) (x0 x1 x2 : D) : run (n + 1) .law_deep [x0, x1, x2] = oEnd (b_law_deep (run n) [some x0, some x1, some x2, none, none, none, none, none, none, none, none]) := rfl
theorem u_law_deep_right_1 (c : Fn → List D → R) (ρ : Sl) : b_law_deep_right_1 c ρ = (eCall (c .law_ware) (aCons (eCall (c .law_cell) (aCons (eVar 0) (aCons (e2 dAdd (eC (.int 3)) (eVar 3)) aNil))) (aCons (eVar 1) (aCons (eC (.bl false)) aNil)))) ρ := rfl
theorem r_law_deep_right (n : Nat) (x0 x1 : D) : run (n + 1) .law_deep_right [x0, x1] = oEnd (b_law_deep_right (run n) [some x0, some x1, none, none, none, none, none, none, none, none]) := rfl
theorem r_law_ware (n : Nat) (x0 x1 x2 : D) : run (n + 1) .law_ware [x0, x1, x2] = oEnd (b_law_ware (run n) [some x0, some x1, some x2, none, none]) := rfl
theorem u_law_1 (c : Fn → List D → R) (ρ : Sl) : b_law_1 c ρ = (eCall (c .law_ware) (aCons (eCall (c .law_cell) (aCons (eVar 0) (aCons (e2 dAdd (eC (.int 3)) (eVar 5)) aNil))) (aCons (eVar 3) (aCons (eNot (eVar 2)) aNil)))) ρ := rfl
theorem u_law_2 (c : Fn → List D → R) (ρ : Sl) : b_law_2 c ρ = (eCall dMax2 (aCons (eIx (eVar 8) (eC (.int 0))) (aCons (eIx (eVar 8) (eC (.int 1))) aNil))) ρ := rfl
theorem u_law_3 (c : Fn → List D → R) (ρ : Sl) : b_law_3 c ρ = (sSeq (sSet 14 (eCall (c .bars_all) (aCons (eVar 6) (aCons (eVar 12) (aCons (eVar 9) aNil))))) (sIf (tOr' (tNot' (tt (e1 (dIs "bool") (eVar 14)))) (tt (e2 dNe (eVar 14) (eVar 10)))) (sRet (eC (.bl false))) sNil)) ρ := rfl
theorem r_law (n : Nat) (x0 : D) : run (n + 1) .law [x0] = oEnd (b_law (run n) [some x0, none, none, none, none, none, none, none, none, none, none, none, none, none, none]) := rfl
theorem run_len (n : Nat) (g : Fn) : ∀ ds, ds.length ≠ np g → run n g ds = .bad := by
  intro ds h
  cases n with
  | zero => rfl
  | succ n => cases g <;> exact runB_len ds h
/-! ### where the defs stand -/
structure Glob (K : PySem.W.Frag) (mg : Str → Option Value) (ad : Fn → Addr) (fd : Fn → FuncData) : Prop where
  m_sides_of : mg "sides_of" = some (.ref (ad .sides_of))
  k_sides_of : PySem.W.keepIn K (.ref (ad .sides_of)) = true
  b_sides_of : Binds K (fd .sides_of) ["ware", "lie"] []
  f_sides_of : Fun K "sides_of" "sides_of" s_sides_of (ad .sides_of) (fd .sides_of)
  m_lies_of : mg "lies_of" = some (.ref (ad .lies_of))
  k_lies_of : PySem.W.keepIn K (.ref (ad .lies_of)) = true
  b_lies_of : Binds K (fd .lies_of) ["ware"] []
  f_lies_of : Fun K "lies_of" "lies_of" s_lies_of (ad .lies_of) (fd .lies_of)
  m_ways_of : mg "ways_of" = some (.ref (ad .ways_of))
  k_ways_of : PySem.W.keepIn K (.ref (ad .ways_of)) = true
  b_ways_of : Binds K (fd .ways_of) ["i", "j"] []
  f_ways_of : Fun K "ways_of" "ways_of" s_ways_of (ad .ways_of) (fd .ways_of)
  m_side_of_box : mg "side_of_box" = some (.ref (ad .side_of_box))
  k_side_of_box : PySem.W.keepIn K (.ref (ad .side_of_box)) = true
  b_side_of_box : Binds K (fd .side_of_box) ["box", "word"] []
  f_side_of_box : Fun K "side_of_box" "side_of_box" s_side_of_box (ad .side_of_box) (fd .side_of_box)
  m_chain_total : mg "chain_total" = some (.ref (ad .chain_total))
  k_chain_total : PySem.W.keepIn K (.ref (ad .chain_total)) = true
  b_chain_total : Binds K (fd .chain_total) ["wares", "lies", "word", "numbers"] []
  f_chain_total : Fun K "chain_total" "chain_total" s_chain_total (ad .chain_total) (fd .chain_total)
  m_leaf_right : mg "leaf_right" = some (.ref (ad .leaf_right))
  k_leaf_right : PySem.W.keepIn K (.ref (ad .leaf_right)) = true
  b_leaf_right : Binds K (fd .leaf_right) ["box", "wares", "leaf", "lies", "told"] []
  f_leaf_right : Fun K "leaf_right" "leaf_right" s_leaf_right (ad .leaf_right) (fd .leaf_right)
  m_turn_right : mg "turn_right" = some (.ref (ad .turn_right))
  k_turn_right : PySem.W.keepIn K (.ref (ad .turn_right)) = true
  b_turn_right : Binds K (fd .turn_right) ["box", "wares", "paper", "lies", "told"] []
  f_turn_right : Fun K "turn_right" "turn_right" s_turn_right (ad .turn_right) (fd .turn_right)
  m_pair_right : mg "pair_right" = some (.ref (ad .pair_right))
  k_pair_right : PySem.W.keepIn K (.ref (ad .pair_right)) = true
  b_pair_right : Binds K (fd .pair_right) ["box", "wares", "paper", "lies", "told"] []
  f_pair_right : Fun K "pair_right" "pair_right" s_pair_right (ad .pair_right) (fd .pair_right)
  m_way_right : mg "way_right" = some (.ref (ad .way_right))
  k_way_right : PySem.W.keepIn K (.ref (ad .way_right)) = true
  b_way_right : Binds K (fd .way_right) ["box", "wares", "paper", "lies", "told"] []
  f_way_right : Fun K "way_right" "way_right" s_way_right (ad .way_right) (fd .way_right)
  m_bars_all : mg "bars_all" = some (.ref (ad .bars_all))
  k_bars_all : PySem.W.keepIn K (.ref (ad .bars_all)) = true
  b_bars_all : Binds K (fd .bars_all) ["box", "wares", "paper"] []
  f_bars_all : Fun K "bars_all" "bars_all" s_bars_all (ad .bars_all) (fd .bars_all)
  m_law_cell : mg "_law_cell" = some (.ref (ad .law_cell))
  k_law_cell : PySem.W.keepIn K (.ref (ad .law_cell)) = true
  b_law_cell : Binds K (fd .law_cell) ["script", "k"] []
  f_law_cell : Fun K "_law_cell" "_law_cell" s_law_cell (ad .law_cell) (fd .law_cell)
  m_law_sides : mg "_law_sides" = some (.ref (ad .law_sides))
  k_law_sides : PySem.W.keepIn K (.ref (ad .law_sides)) = true
  b_law_sides : Binds K (fd .law_sides) ["ware", "lie"] []
  f_law_sides : Fun K "_law_sides" "_law_sides" s_law_sides (ad .law_sides) (fd .law_sides)
  m_law_two : mg "_law_two" = some (.ref (ad .law_two))
  k_law_two : PySem.W.keepIn K (.ref (ad .law_two)) = true
  b_law_two : Binds K (fd .law_two) ["ware"] []
  f_law_two : Fun K "_law_two" "_law_two" s_law_two (ad .law_two) (fd .law_two)
  m_law_whole : mg "_law_whole" = some (.ref (ad .law_whole))
  k_law_whole : PySem.W.keepIn K (.ref (ad .law_whole)) = true
  b_law_whole : Binds K (fd .law_whole) ["found"] []
  f_law_whole : Fun K "_law_whole" "_law_whole" s_law_whole (ad .law_whole) (fd .law_whole)
  m_law_leaf : mg "_law_leaf" = some (.ref (ad .law_leaf))
  k_law_leaf : PySem.W.keepIn K (.ref (ad .law_leaf)) = true
  b_law_leaf : Binds K (fd .law_leaf) ["box", "wares", "leaf", "lies", "told"] []
  f_law_leaf : Fun K "_law_leaf" "_law_leaf" s_law_leaf (ad .law_leaf) (fd .law_leaf)
  m_law_turn : mg "_law_turn" = some (.ref (ad .law_turn))
  k_law_turn : PySem.W.keepIn K (.ref (ad .law_turn)) = true
  b_law_turn : Binds K (fd .law_turn) ["box", "wares", "paper", "lies", "told", "room"] []
  f_law_turn : Fun K "_law_turn" "_law_turn" s_law_turn (ad .law_turn) (fd .law_turn)
  m_law_bars : mg "_law_bars" = some (.ref (ad .law_bars))
  k_law_bars : PySem.W.keepIn K (.ref (ad .law_bars)) = true
  b_law_bars : Binds K (fd .law_bars) ["box", "wares", "paper", "lies", "told", "room"] []
  f_law_bars : Fun K "_law_bars" "_law_bars" s_law_bars (ad .law_bars) (fd .law_bars)
  m_law_copy : mg "_law_copy" = some (.ref (ad .law_copy))
  k_law_copy : PySem.W.keepIn K (.ref (ad .law_copy)) = true
  b_law_copy : Binds K (fd .law_copy) ["paper"] []
  f_law_copy : Fun K "_law_copy" "_law_copy" s_law_copy (ad .law_copy) (fd .law_copy)
  m_law_leaf_drawn : mg "_law_leaf_drawn" = some (.ref (ad .law_leaf_drawn))
  k_law_leaf_drawn : PySem.W.keepIn K (.ref (ad .law_leaf_drawn)) = true
  b_law_leaf_drawn : Binds K (fd .law_leaf_drawn) ["cell", "told", "many", "honest"] []
  f_law_leaf_drawn : Fun K "_law_leaf_drawn" "_law_leaf_drawn" s_law_leaf_drawn (ad .law_leaf_drawn) (fd .law_leaf_drawn)
  m_law_drawn : mg "_law_drawn" = some (.ref (ad .law_drawn))
  k_law_drawn : PySem.W.keepIn K (.ref (ad .law_drawn)) = true
  b_law_drawn : Binds K (fd .law_drawn) ["script", "at", "room", "many", "told", "honest"] []
  f_law_drawn : Fun K "_law_drawn" "_law_drawn" s_law_drawn (ad .law_drawn) (fd .law_drawn)
  m_law_four : mg "_law_four" = some (.ref (ad .law_four))
  k_law_four : PySem.W.keepIn K (.ref (ad .law_four)) = true
  b_law_four : Binds K (fd .law_four) ["i", "j"] []
  f_law_four : Fun K "_law_four" "_law_four" s_law_four (ad .law_four) (fd .law_four)
  m_law_deep : mg "_law_deep" = some (.ref (ad .law_deep))
  k_law_deep : PySem.W.keepIn K (.ref (ad .law_deep)) = true
  b_law_deep : Binds K (fd .law_deep) ["cell", "many", "bad"] []
  f_law_deep : Fun K "_law_deep" "_law_deep" s_law_deep (ad .law_deep) (fd .law_deep)
  m_law_deep_right : mg "_law_deep_right" = some (.ref (ad .law_deep_right))
  k_law_deep_right : PySem.W.keepIn K (.ref (ad .law_deep_right)) = true
  b_law_deep_right : Binds K (fd .law_deep_right) ["script", "unit"] []
  f_law_deep_right : Fun K "_law_deep_right" "_law_deep_right" s_law_deep_right (ad .law_deep_right) (fd .law_deep_right)
  m_law_ware : mg "_law_ware" = some (.ref (ad .law_ware))
  k_law_ware : PySem.W.keepIn K (.ref (ad .law_ware)) = true
  b_law_ware : Binds K (fd .law_ware) ["cell", "unit", "turns"] []
  f_law_ware : Fun K "_law_ware" "_law_ware" s_law_ware (ad .law_ware) (fd .law_ware)
  m_law : mg "law" = some (.ref (ad .law))
  k_law : PySem.W.keepIn K (.ref (ad .law)) = true
  b_law : Binds K (fd .law) ["script"] []
  f_law : Fun K "law" "law" s_law (ad .law) (fd .law)
  z_len : mg "len" = none
  z_zip : mg "zip" = none
  z_dict : mg "dict" = none
  z_int : mg "int" = none
  z_isinstance : mg "isinstance" = none
  z_bool : mg "bool" = none
  z_list : mg "list" = none
  z_tuple : mg "tuple" = none
  z_range : mg "range" = none
  z_min : mg "min" = none
  z_max : mg "max" = none
section
variable {P : Program} {w : World} {K : PySem.W.Frag} {mg : Str → Option Value} {base : Heap} {ad : Fn → Addr} {fd : Fn → FuncData} {n : Nat}
abbrev IH (P : Program) (w : World) (K : PySem.W.Frag) (mg : Str → Option Value) (base : Heap) (ad : Fn → Addr) (fd : Fn → FuncData) (n : Nat) : Prop := ∀ g : Fn, FnOk P w K mg base (L2.CX P w) n (ad g) (fd g) (pr g) (spX K mg (isNew g) (np g) (run n g))
theorem ok_sides_of (G : Glob K mg ad fd) (I : IH P w K mg base ad fd n) : FnOk P w K mg base (L2.CX P w) (n + 1) (ad .sides_of) (fd .sides_of) (pr .sides_of) (spX K mg (isNew .sides_of) (np .sides_of) (run (n + 1) .sides_of)) := by
  refine fn_mk (N := ["ware", "lie"]) (ps := pr .sides_of) (o' := []) (mb := b_sides_of (run n)) G.f_sides_of sc_sides_of (fun cdv A outer s H E hr => ?_)
  unfold b_sides_of
  exact (ss_cons (o1 := []) (s_if (o1 := []) (t_not (t_val (c_var 1))) (ss_one (s_ret (c_tup (a_cons (c_ix (b_of (c_var 0)) c_int) (a_cons (c_ix (b_of (c_var 0)) c_int) a_nil))))) ss_nil) (ss_cons (o1 := []) (s_if (o1 := []) (t_not (t_val (c_ix (b_of (c_var 0)) c_int))) (ss_one s_never) ss_nil) (ss_one (s_ret (c_tup (a_cons (c_ix (b_of (c_var 0)) c_int) (a_cons (c_ix (b_of (c_var 0)) c_int) a_nil)))))))
theorem ok_lies_of (G : Glob K mg ad fd) (I : IH P w K mg base ad fd n) : FnOk P w K mg base (L2.CX P w) (n + 1) (ad .lies_of) (fd .lies_of) (pr .lies_of) (spX K mg (isNew .lies_of) (np .lies_of) (run (n + 1) .lies_of)) := by
  refine fn_mk (N := ["ware"]) (ps := pr .lies_of) (o' := []) (mb := b_lies_of (run n)) G.f_lies_of sc_lies_of (fun cdv A outer s H E hr => ?_)
  unfold b_lies_of
  exact (ss_cons (o1 := []) (s_if (o1 := []) (PW.pt (w_and (t_val (c_ix (b_of (c_var 0)) c_int)) (w_and1 (t_ne (u64 hr) (c_ix (b_of (c_var 0)) c_int) (c_ix (b_of (c_var 0)) c_int))))) (ss_one (s_ret (of_new (f_lst (a_cons c_bl (a_cons c_bl a_nil)))))) ss_nil) (ss_one (s_ret (of_new (f_lst (a_cons c_bl a_nil))))))
theorem ok_ways_of (G : Glob K mg ad fd) (I : IH P w K mg base ad fd n) : FnOk P w K mg base (L2.CX P w) (n + 1) (ad .ways_of) (fd .ways_of) (pr .ways_of) (spX K mg (isNew .ways_of) (np .ways_of) (run (n + 1) .ways_of)) := by
  refine fn_mk (N := ["i", "j"]) (ps := pr .ways_of) (o' := []) (mb := b_ways_of (run n)) G.f_ways_of sc_ways_of (fun cdv A outer s H E hr => ?_)
  unfold b_ways_of
  exact (ss_one (s_ret (of_new (f_lst (a_cons (c_tup (a_cons c_str (a_cons (c_var 0) (a_cons (c_var 1) a_nil)))) (a_cons (c_tup (a_cons c_str (a_cons (c_var 1) (a_cons (c_var 0) a_nil)))) (a_cons (c_tup (a_cons c_str (a_cons (c_var 0) (a_cons (c_var 1) a_nil)))) (a_cons (c_tup (a_cons c_str (a_cons (c_var 1) (a_cons (c_var 0) a_nil)))) a_nil))))))))
theorem ok_side_of_box (G : Glob K mg ad fd) (I : IH P w K mg base ad fd n) : FnOk P w K mg base (L2.CX P w) (n + 1) (ad .side_of_box) (fd .side_of_box) (pr .side_of_box) (spX K mg (isNew .side_of_box) (np .side_of_box) (run (n + 1) .side_of_box)) := by
  refine fn_mk (N := ["box", "word"]) (ps := pr .side_of_box) (o' := []) (mb := b_side_of_box (run n)) G.f_side_of_box sc_side_of_box (fun cdv A outer s H E hr => ?_)
  unfold b_side_of_box
  exact (ss_cons (o1 := []) (s_if (o1 := []) (t_eq (u64 hr) (c_var 1) c_str) (ss_one (s_ret (c_ix (b_of (c_var 0)) c_int))) ss_nil) (ss_one (s_ret (c_ix (b_of (c_var 0)) c_int))))
theorem ok_chain_total (G : Glob K mg ad fd) (I : IH P w K mg base ad fd n) : FnOk P w K mg base (L2.CX P w) (n + 1) (ad .chain_total) (fd .chain_total) (pr .chain_total) (spX K mg (isNew .chain_total) (np .chain_total) (run (n + 1) .chain_total)) := by
  refine fn_mk (N := ["wares", "lies", "word", "numbers", "total", "k", "sides"]) (ps := pr .chain_total) (o' := []) (mb := b_chain_total (run n)) G.f_chain_total sc_chain_total (fun cdv A outer s H E hr => ?_)
  unfold b_chain_total b_chain_total_1
  exact (ss_cons (o1 := []) (s_set 4 (o1 := []) c_int sc_chain_total.nd) (ss_cons (o1 := []) (s_for (o1 := []) hpD rfl (i_any (w_of (c_var 3))) (g_name 5 (o1 := []) sc_chain_total.nd) (ss_cons (o1 := []) (s_set 6 (o1 := []) (c_call (I .sides_of) (run_len n .sides_of) hr G.m_sides_of G.k_sides_of G.b_sides_of tkD (a_cons (c_ix (b_of (c_var 0)) (c_var 5)) (a_cons (c_get (u1 hr) (b_of (c_var 1)) (c_var 5) c_bl ⟨rfl, rfl, rfl, rfl⟩) a_nil))) sc_chain_total.nd) (ss_one (s_set 4 (o1 := []) (c_add (c_var 4) (c_call (I .side_of_box) (run_len n .side_of_box) hr G.m_side_of_box G.k_side_of_box G.b_side_of_box tkD (a_cons (c_var 6) (a_cons (c_var 2) a_nil)))) sc_chain_total.nd)))) (ss_one (s_ret (c_var 4)))))
theorem ok_leaf_right (G : Glob K mg ad fd) (I : IH P w K mg base ad fd n) : FnOk P w K mg base (L2.CX P w) (n + 1) (ad .leaf_right) (fd .leaf_right) (pr .leaf_right) (spX K mg (isNew .leaf_right) (np .leaf_right) (run (n + 1) .leaf_right)) := by
  refine fn_mk (N := ["box", "wares", "leaf", "lies", "told", "word", "numbers", "k", "a", "b"]) (ps := pr .leaf_right) (o' := []) (mb := b_leaf_right (run n)) G.f_leaf_right sc_leaf_right (fun cdv A outer s H E hr => ?_)
  unfold b_leaf_right b_leaf_right_2 b_leaf_right_1
  exact (ss_cons (o1 := []) (s_set 5 (o1 := []) (c_ix (b_of (c_var 2)) c_int) sc_leaf_right.nd) (ss_cons (o1 := []) (s_set 6 (o1 := []) (c_ix (b_of (c_var 2)) c_int) sc_leaf_right.nd) (ss_cons (o1 := []) (s_if (o1 := []) (t_eq (u64 hr) (c_len G.z_len (b_of (c_var 6))) c_int) (ss_one (s_ret c_bl)) ss_nil) (ss_cons (o1 := []) (s_for (o1 := []) hpD rfl (i_any (w_of (c_var 6))) (g_name 7 (o1 := []) sc_leaf_right.nd) (ss_cons (o1 := []) (s_if (o1 := []) (t_not (t_chain op_le s_le calm_le op_lt s_lt calm_lt c_int (c_var 7) (c_len G.z_len (b_of (c_var 1))))) (ss_one (s_ret c_bl)) ss_nil) (ss_one (s_if (o1 := []) (PW.pt (w_and (t_eq (u64 hr) (c_len G.z_len (b_of (c_call (I .lies_of) (run_len n .lies_of) hr G.m_lies_of G.k_lies_of G.b_lies_of tkD (a_cons (c_ix (b_of (c_var 1)) (c_var 7)) a_nil)))) c_int) (w_and1 (t_notIn (u65 hr) (c_var 7) (b_of (c_var 3)))))) (ss_one (s_ret c_bl)) ss_nil)))) (ss_cons (o1 := []) (s_for (o1 := []) hpD rfl (i_zip G.z_zip (v_cons (w_of (c_var 6)) (v_cons (w_of (c_slice (b_of (c_var 6)) (p_some c_int) p_none)) v_nil))) (g_tup rfl (g_cons (o1 := []) (g_name 8 (o1 := []) sc_leaf_right.nd) (g_cons (o1 := []) (g_name 9 (o1 := []) sc_leaf_right.nd) g_nil))) (ss_one (s_if (o1 := []) (t_notIn (u65 hr) (c_tup (a_cons (c_var 5) (a_cons (c_var 8) (a_cons (c_var 9) a_nil)))) (b_of (c_var 4))) (ss_one (s_ret c_bl)) ss_nil))) (ss_one (s_ret (c_gt (c_call (I .chain_total) (run_len n .chain_total) hr G.m_chain_total G.k_chain_total G.b_chain_total tkD (a_cons (c_var 1) (a_cons (c_var 3) (a_cons (c_var 5) (a_cons (c_var 6) a_nil))))) (c_call (I .side_of_box) (run_len n .side_of_box) hr G.m_side_of_box G.k_side_of_box G.b_side_of_box tkD (a_cons (c_var 0) (a_cons (c_var 5) a_nil)))))))))))
theorem ok_turn_right (G : Glob K mg ad fd) (I : IH P w K mg base ad fd n) : FnOk P w K mg base (L2.CX P w) (n + 1) (ad .turn_right) (fd .turn_right) (pr .turn_right) (spX K mg (isNew .turn_right) (np .turn_right) (run (n + 1) .turn_right)) := by
  refine fn_mk (N := ["box", "wares", "paper", "lies", "told", "k", "lie", "now"]) (ps := pr .turn_right) (o' := []) (mb := b_turn_right (run n)) G.f_turn_right sc_turn_right (fun cdv A outer s H E hr => ?_)
  unfold b_turn_right b_turn_right_1
  exact (ss_cons (o1 := []) (s_set 5 (o1 := []) (c_ix (b_of (c_var 2)) c_int) sc_turn_right.nd) (ss_cons (o1 := []) (s_if (o1 := []) (PW.pt (w_or (t_not (t_chain op_le s_le calm_le op_lt s_lt calm_lt c_int (c_var 5) (c_len G.z_len (b_of (c_var 1))))) (w_or (t_in (u65 hr) (c_var 5) (b_of (c_var 3))) (w_or1 (t_lt (c_len G.z_len (b_of (c_call (I .lies_of) (run_len n .lies_of) hr G.m_lies_of G.k_lies_of G.b_lies_of tkD (a_cons (c_ix (b_of (c_var 1)) (c_var 5)) a_nil)))) c_int))))) (ss_one (s_ret c_bl)) ss_nil) (ss_cons (o1 := []) (s_for (o1 := []) hpD rfl (i_any (w_of (c_tup (a_cons c_bl (a_cons c_bl a_nil))))) (g_name 6 (o1 := []) sc_turn_right.nd) (ss_cons (o1 := [7]) (s_own 7 (o1 := [7]) (f_dict G.z_dict (b_of (c_var 3))) sc_turn_right.nd) (ss_cons (o1 := [7]) (s_setix 7 (u1 hr) (c_var 5) (c_var 6)) (ss_one (s_frz [7] (o1 := []) (s_if (o1 := []) (t_not (t_val (c_call (I .way_right) (run_len n .way_right) hr G.m_way_right G.k_way_right G.b_way_right tkD (a_cons (c_var 0) (a_cons (c_var 1) (a_cons (c_ix (b_of (c_var 2)) (c_add c_int (c_int1 G.z_int (a_cons (c_var 6) a_nil)))) (a_cons (c_var 7) (a_cons (c_var 4) a_nil)))))))) (ss_one (s_ret c_bl)) ss_nil)))))) (ss_one (s_ret c_bl)))))
theorem ok_pair_right (G : Glob K mg ad fd) (I : IH P w K mg base ad fd n) : FnOk P w K mg base (L2.CX P w) (n + 1) (ad .pair_right) (fd .pair_right) (pr .pair_right) (spX K mg (isNew .pair_right) (np .pair_right) (run (n + 1) .pair_right)) := by
  refine fn_mk (N := ["box", "wares", "paper", "lies", "told", "i", "j", "at", "way"]) (ps := pr .pair_right) (o' := []) (mb := b_pair_right (run n)) G.f_pair_right sc_pair_right (fun cdv A outer s H E hr => ?_)
  unfold b_pair_right b_pair_right_1
  exact (ss_cons (o1 := []) (s_set 5 (o1 := []) (c_ix (b_of (c_var 2)) c_int) sc_pair_right.nd) (ss_cons (o1 := []) (s_set 6 (o1 := []) (c_ix (b_of (c_var 2)) c_int) sc_pair_right.nd) (ss_cons (o1 := []) (s_if (o1 := []) (PW.pt (w_or (t_eq (u64 hr) (c_var 5) (c_var 6)) (w_or (t_not (t_chain op_le s_le calm_le op_lt s_lt calm_lt c_int (c_var 5) (c_len G.z_len (b_of (c_var 1))))) (w_or1 (t_not (t_chain op_le s_le calm_le op_lt s_lt calm_lt c_int (c_var 6) (c_len G.z_len (b_of (c_var 1))))))))) (ss_one (s_ret c_bl)) ss_nil) (ss_cons (o1 := []) (s_set 7 (o1 := []) c_int sc_pair_right.nd) (ss_cons (o1 := []) (s_for (o1 := []) hpD rfl (i_any (w_of (c_call (I .ways_of) (run_len n .ways_of) hr G.m_ways_of G.k_ways_of G.b_ways_of tkD (a_cons (c_var 5) (a_cons (c_var 6) a_nil))))) (g_name 8 (o1 := []) sc_pair_right.nd) (ss_cons (o1 := []) (s_if (o1 := []) (t_not (t_val (c_call (I .way_right) (run_len n .way_right) hr G.m_way_right G.k_way_right G.b_way_right tkD (a_cons (c_var 0) (a_cons (c_var 1) (a_cons (c_ix (b_of (c_var 2)) (c_var 7)) (a_cons (c_var 3) (a_cons (c_add (c_var 4) (of_new (f_lst (a_cons (c_var 8) a_nil)))) a_nil)))))))) (ss_one (s_ret c_bl)) ss_nil) (ss_one (s_set 7 (o1 := []) (c_add (c_var 7) c_int) sc_pair_right.nd)))) (ss_one (s_ret c_bl)))))))
theorem ok_way_right (G : Glob K mg ad fd) (I : IH P w K mg base ad fd n) : FnOk P w K mg base (L2.CX P w) (n + 1) (ad .way_right) (fd .way_right) (pr .way_right) (spX K mg (isNew .way_right) (np .way_right) (run (n + 1) .way_right)) := by
  refine fn_mk (N := ["box", "wares", "paper", "lies", "told"]) (ps := pr .way_right) (o' := []) (mb := b_way_right (run n)) G.f_way_right sc_way_right (fun cdv A outer s H E hr => ?_)
  unfold b_way_right
  exact (ss_cons (o1 := []) (s_if (o1 := []) (t_eq (u64 hr) (c_ix (b_of (c_var 2)) c_int) c_str) (ss_one (s_ret (c_call (I .leaf_right) (run_len n .leaf_right) hr G.m_leaf_right G.k_leaf_right G.b_leaf_right tkD (a_cons (c_var 0) (a_cons (c_var 1) (a_cons (c_var 2) (a_cons (c_var 3) (a_cons (c_var 4) a_nil)))))))) ss_nil) (ss_cons (o1 := []) (s_if (o1 := []) (t_eq (u64 hr) (c_ix (b_of (c_var 2)) c_int) c_str) (ss_one (s_ret (c_call (I .turn_right) (run_len n .turn_right) hr G.m_turn_right G.k_turn_right G.b_turn_right tkD (a_cons (c_var 0) (a_cons (c_var 1) (a_cons (c_var 2) (a_cons (c_var 3) (a_cons (c_var 4) a_nil)))))))) ss_nil) (ss_one (s_ret (c_call (I .pair_right) (run_len n .pair_right) hr G.m_pair_right G.k_pair_right G.b_pair_right tkD (a_cons (c_var 0) (a_cons (c_var 1) (a_cons (c_var 2) (a_cons (c_var 3) (a_cons (c_var 4) a_nil))))))))))
theorem ok_bars_all (G : Glob K mg ad fd) (I : IH P w K mg base ad fd n) : FnOk P w K mg base (L2.CX P w) (n + 1) (ad .bars_all) (fd .bars_all) (pr .bars_all) (spX K mg (isNew .bars_all) (np .bars_all) (run (n + 1) .bars_all)) := by
  refine fn_mk (N := ["box", "wares", "paper"]) (ps := pr .bars_all) (o' := []) (mb := b_bars_all (run n)) G.f_bars_all sc_bars_all (fun cdv A outer s H E hr => ?_)
  unfold b_bars_all
  exact (ss_one (s_ret (c_call (I .way_right) (run_len n .way_right) hr G.m_way_right G.k_way_right G.b_way_right tkD (a_cons (c_var 0) (a_cons (c_var 1) (a_cons (c_var 2) (a_cons (of_new f_empty) (a_cons (of_new (f_lst a_nil)) a_nil))))))))
theorem ok_law_cell (G : Glob K mg ad fd) (I : IH P w K mg base ad fd n) : FnOk P w K mg base (L2.CX P w) (n + 1) (ad .law_cell) (fd .law_cell) (pr .law_cell) (spX K mg (isNew .law_cell) (np .law_cell) (run (n + 1) .law_cell)) := by
  refine fn_mk (N := ["script", "k"]) (ps := pr .law_cell) (o' := []) (mb := b_law_cell (run n)) G.f_law_cell sc_law_cell (fun cdv A outer s H E hr => ?_)
  unfold b_law_cell
  exact (ss_cons (o1 := []) (s_if (o1 := []) (t_lt (c_var 1) (c_len G.z_len (b_of (c_var 0)))) (ss_one (s_ret (c_ix (b_of (c_var 0)) (c_var 1)))) ss_nil) (ss_one (s_ret c_int)))
theorem ok_law_sides (G : Glob K mg ad fd) (I : IH P w K mg base ad fd n) : FnOk P w K mg base (L2.CX P w) (n + 1) (ad .law_sides) (fd .law_sides) (pr .law_sides) (spX K mg (isNew .law_sides) (np .law_sides) (run (n + 1) .law_sides)) := by
  refine fn_mk (N := ["ware", "lie"]) (ps := pr .law_sides) (o' := []) (mb := b_law_sides (run n)) G.f_law_sides sc_law_sides (fun cdv A outer s H E hr => ?_)
  unfold b_law_sides
  exact (ss_cons (o1 := []) (s_if (o1 := []) (t_val (c_var 1)) (ss_one (s_ret (c_tup (a_cons (c_ix (b_of (c_var 0)) c_int) (a_cons (c_ix (b_of (c_var 0)) c_int) a_nil))))) ss_nil) (ss_one (s_ret (c_tup (a_cons (c_ix (b_of (c_var 0)) c_int) (a_cons (c_ix (b_of (c_var 0)) c_int) a_nil))))))
theorem ok_law_two (G : Glob K mg ad fd) (I : IH P w K mg base ad fd n) : FnOk P w K mg base (L2.CX P w) (n + 1) (ad .law_two) (fd .law_two) (pr .law_two) (spX K mg (isNew .law_two) (np .law_two) (run (n + 1) .law_two)) := by
  refine fn_mk (N := ["ware"]) (ps := pr .law_two) (o' := []) (mb := b_law_two (run n)) G.f_law_two sc_law_two (fun cdv A outer s H E hr => ?_)
  unfold b_law_two
  exact (ss_one (s_ret (c_and (c_ix (b_of (c_var 0)) c_int) (c_one (c_ne (u64 hr) (c_ix (b_of (c_var 0)) c_int) (c_ix (b_of (c_var 0)) c_int))))))
theorem ok_law_whole (G : Glob K mg ad fd) (I : IH P w K mg base ad fd n) : FnOk P w K mg base (L2.CX P w) (n + 1) (ad .law_whole) (fd .law_whole) (pr .law_whole) (spX K mg (isNew .law_whole) (np .law_whole) (run (n + 1) .law_whole)) := by
  refine fn_mk (N := ["found"]) (ps := pr .law_whole) (o' := []) (mb := b_law_whole (run n)) G.f_law_whole sc_law_whole (fun cdv A outer s H E hr => ?_)
  unfold b_law_whole
  exact (ss_one (s_ret (c_and (c_isi (Ty := "int") (by decide) G.z_isinstance G.z_int (by decide +kernel) (c_var 0)) (c_one (c_not (c_isi (Ty := "bool") (by decide) G.z_isinstance G.z_bool (by decide +kernel) (c_var 0)))))))
theorem ok_law_leaf (G : Glob K mg ad fd) (I : IH P w K mg base ad fd n) : FnOk P w K mg base (L2.CX P w) (n + 1) (ad .law_leaf) (fd .law_leaf) (pr .law_leaf) (spX K mg (isNew .law_leaf) (np .law_leaf) (run (n + 1) .law_leaf)) := by
  refine fn_mk (N := ["box", "wares", "leaf", "lies", "told", "axis", "total", "last", "k"]) (ps := pr .law_leaf) (o' := []) (mb := b_law_leaf (run n)) G.f_law_leaf sc_law_leaf (fun cdv A outer s H E hr => ?_)
  unfold b_law_leaf b_law_leaf_1
  exact (ss_cons (o1 := []) (s_if (o1 := []) (PW.pt (w_or (t_ne (u64 hr) (c_len G.z_len (b_of (c_var 2))) c_int) (w_or (t_notIn (u65 hr) (c_ix (b_of (c_var 2)) c_int) (b_of (c_tup (a_cons c_str (a_cons c_str a_nil))))) (w_or (t_not (t_val (c_isi (Ty := "list") (by decide) G.z_isinstance G.z_list (by decide +kernel) (c_ix (b_of (c_var 2)) c_int)))) (w_or1 (t_eq (u64 hr) (c_len G.z_len (b_of (c_ix (b_of (c_var 2)) c_int))) c_int)))))) (ss_one (s_ret c_bl)) ss_nil) (ss_cons (o1 := []) (s_set 5 (o1 := []) (c_int1 G.z_int (a_cons (c_eq (u64 hr) (c_ix (b_of (c_var 2)) c_int) c_str) a_nil)) sc_law_leaf.nd) (ss_cons (o1 := []) (s_set 6 (o1 := []) c_int sc_law_leaf.nd) (ss_cons (o1 := []) (s_set 7 (o1 := []) c_non sc_law_leaf.nd) (ss_cons (o1 := []) (s_for (o1 := []) hpD rfl (i_any (w_of (c_ix (b_of (c_var 2)) c_int))) (g_name 8 (o1 := []) sc_law_leaf.nd) (ss_cons (o1 := []) (s_if (o1 := []) (PW.pt (w_or (t_not (t_val (c_call (I .law_whole) (run_len n .law_whole) hr G.m_law_whole G.k_law_whole G.b_law_whole tkD (a_cons (c_var 8) a_nil)))) (w_or1 (t_not (t_chain op_le s_le calm_le op_lt s_lt calm_lt c_int (c_var 8) (c_len G.z_len (b_of (c_var 1)))))))) (ss_one (s_ret c_bl)) ss_nil) (ss_cons (o1 := []) (s_if (o1 := []) (PW.pt (w_and (t_val (c_call (I .law_two) (run_len n .law_two) hr G.m_law_two G.k_law_two G.b_law_two tkD (a_cons (c_ix (b_of (c_var 1)) (c_var 8)) a_nil))) (w_and1 (t_notIn (u65 hr) (c_var 8) (b_of (c_var 3)))))) (ss_one (s_ret c_bl)) ss_nil) (ss_cons (o1 := []) (s_if (o1 := []) (PW.pt (w_and (t_notN (c_var 7) c_non) (w_and1 (t_notIn (u65 hr) (c_tup (a_cons (c_ix (b_of (c_var 2)) c_int) (a_cons (c_var 7) (a_cons (c_var 8) a_nil)))) (b_of (c_var 4)))))) (ss_one (s_ret c_bl)) ss_nil) (ss_cons (o1 := []) (s_set 6 (o1 := []) (c_add (c_var 6) (c_ix (b_of (c_call (I .law_sides) (run_len n .law_sides) hr G.m_law_sides G.k_law_sides G.b_law_sides tkD (a_cons (c_ix (b_of (c_var 1)) (c_var 8)) (a_cons (c_get (u1 hr) (b_of (c_var 3)) (c_var 8) c_bl ⟨rfl, rfl, rfl, rfl⟩) a_nil)))) (c_var 5))) sc_law_leaf.nd) (ss_one (s_set 7 (o1 := []) (c_var 8) sc_law_leaf.nd))))))) (ss_one (s_ret (c_gt (c_var 6) (c_ix (b_of (c_var 0)) (c_var 5))))))))))
theorem ok_law_turn (G : Glob K mg ad fd) (I : IH P w K mg base ad fd n) : FnOk P w K mg base (L2.CX P w) (n + 1) (ad .law_turn) (fd .law_turn) (pr .law_turn) (spX K mg (isNew .law_turn) (np .law_turn) (run (n + 1) .law_turn)) := by
  refine fn_mk (N := ["box", "wares", "paper", "lies", "told", "room", "k", "lie", "now"]) (ps := pr .law_turn) (o' := []) (mb := b_law_turn (run n)) G.f_law_turn sc_law_turn (fun cdv A outer s H E hr => ?_)
  unfold b_law_turn b_law_turn_1
  exact (ss_cons (o1 := []) (s_set 6 (o1 := []) (c_ix (b_of (c_var 2)) c_int) sc_law_turn.nd) (ss_cons (o1 := []) (s_if (o1 := []) (PW.pt (w_or (t_ne (u64 hr) (c_len G.z_len (b_of (c_var 2))) c_int) (w_or (t_not (t_val (c_call (I .law_whole) (run_len n .law_whole) hr G.m_law_whole G.k_law_whole G.b_law_whole tkD (a_cons (c_var 6) a_nil)))) (w_or1 (t_not (t_chain op_le s_le calm_le op_lt s_lt calm_lt c_int (c_var 6) (c_len G.z_len (b_of (c_var 1))))))))) (ss_one (s_ret c_bl)) ss_nil) (ss_cons (o1 := []) (s_if (o1 := []) (PW.pt (w_or (t_in (u65 hr) (c_var 6) (b_of (c_var 3))) (w_or1 (t_not (t_val (c_call (I .law_two) (run_len n .law_two) hr G.m_law_two G.k_law_two G.b_law_two tkD (a_cons (c_ix (b_of (c_var 1)) (c_var 6)) a_nil))))))) (ss_one (s_ret c_bl)) ss_nil) (ss_cons (o1 := []) (s_for (o1 := []) hpD rfl (i_any (w_of (c_tup (a_cons c_bl (a_cons c_bl a_nil))))) (g_name 7 (o1 := []) sc_law_turn.nd) (ss_cons (o1 := [8]) (s_own 8 (o1 := [8]) (f_dict G.z_dict (b_of (c_var 3))) sc_law_turn.nd) (ss_cons (o1 := [8]) (s_setix 8 (u1 hr) (c_var 6) (c_var 7)) (ss_one (s_frz [8] (o1 := []) (s_if (o1 := []) (t_not (t_val (c_call (I .law_bars) (run_len n .law_bars) hr G.m_law_bars G.k_law_bars G.b_law_bars tkD (a_cons (c_var 0) (a_cons (c_var 1) (a_cons (c_ix (b_of (c_var 2)) (c_add c_int (c_int1 G.z_int (a_cons (c_var 7) a_nil)))) (a_cons (c_var 8) (a_cons (c_var 4) (a_cons (c_sub (c_var 5) c_int) a_nil))))))))) (ss_one (s_ret c_bl)) ss_nil)))))) (ss_one (s_ret c_bl))))))
theorem ok_law_bars (G : Glob K mg ad fd) (I : IH P w K mg base ad fd n) : FnOk P w K mg base (L2.CX P w) (n + 1) (ad .law_bars) (fd .law_bars) (pr .law_bars) (spX K mg (isNew .law_bars) (np .law_bars) (run (n + 1) .law_bars)) := by
  refine fn_mk (N := ["box", "wares", "paper", "lies", "told", "room", "i", "j", "ways", "at"]) (ps := pr .law_bars) (o' := []) (mb := b_law_bars (run n)) G.f_law_bars sc_law_bars (fun cdv A outer s H E hr => ?_)
  unfold b_law_bars b_law_bars_1
  exact (ss_cons (o1 := []) (s_if (o1 := []) (PW.pt (w_or (t_not (t_val (c_isi (Ty := "tuple") (by decide) G.z_isinstance G.z_tuple (by decide +kernel) (c_var 2)))) (w_or (t_lt (c_len G.z_len (b_of (c_var 2))) c_int) (w_or1 (t_eq (u64 hr) (c_var 5) c_int))))) (ss_one (s_ret c_bl)) ss_nil) (ss_cons (o1 := []) (s_if (o1 := []) (t_eq (u64 hr) (c_ix (b_of (c_var 2)) c_int) c_str) (ss_one (s_ret (c_call (I .law_leaf) (run_len n .law_leaf) hr G.m_law_leaf G.k_law_leaf G.b_law_leaf tkD (a_cons (c_var 0) (a_cons (c_var 1) (a_cons (c_var 2) (a_cons (c_var 3) (a_cons (c_var 4) a_nil)))))))) ss_nil) (ss_cons (o1 := []) (s_if (o1 := []) (t_eq (u64 hr) (c_ix (b_of (c_var 2)) c_int) c_str) (ss_one (s_ret (c_call (I .law_turn) (run_len n .law_turn) hr G.m_law_turn G.k_law_turn G.b_law_turn tkD (a_cons (c_var 0) (a_cons (c_var 1) (a_cons (c_var 2) (a_cons (c_var 3) (a_cons (c_var 4) (a_cons (c_var 5) a_nil))))))))) ss_nil) (ss_cons (o1 := []) (s_set 6 (o1 := []) (c_ix (b_of (c_var 2)) c_int) sc_law_bars.nd) (ss_cons (o1 := []) (s_set 7 (o1 := []) (c_ix (b_of (c_var 2)) c_int) sc_law_bars.nd) (ss_cons (o1 := []) (s_if (o1 := []) (PW.pt (w_or (t_ne (u64 hr) (c_ix (b_of (c_var 2)) c_int) c_str) (w_or (t_ne (u64 hr) (c_len G.z_len (b_of (c_var 2))) c_int) (w_or (t_not (t_val (c_call (I .law_whole) (run_len n .law_whole) hr G.m_law_whole G.k_law_whole G.b_law_whole tkD (a_cons (c_var 6) a_nil)))) (w_or (t_not (t_val (c_call (I .law_whole) (run_len n .law_whole) hr G.m_law_whole G.k_law_whole G.b_law_whole tkD (a_cons (c_var 7) a_nil)))) (w_or1 (t_eq (u64 hr) (c_var 6) (c_var 7)))))))) (ss_one (s_ret c_bl)) ss_nil) (ss_cons (o1 := []) (s_if (o1 := []) (PW.pt (w_or (t_not (t_chain op_le s_le calm_le op_lt s_lt calm_lt c_int (c_var 6) (c_len G.z_len (b_of (c_var 1))))) (w_or1 (t_not (t_chain op_le s_le calm_le op_lt s_lt calm_lt c_int (c_var 7) (c_len G.z_len (b_of (c_var 1)))))))) (ss_one (s_ret c_bl)) ss_nil) (ss_cons (o1 := []) (s_set 8 (o1 := []) (of_new (f_lst (a_cons (c_tup (a_cons c_str (a_cons (c_var 6) (a_cons (c_var 7) a_nil)))) (a_cons (c_tup (a_cons c_str (a_cons (c_var 7) (a_cons (c_var 6) a_nil)))) (a_cons (c_tup (a_cons c_str (a_cons (c_var 6) (a_cons (c_var 7) a_nil)))) (a_cons (c_tup (a_cons c_str (a_cons (c_var 7) (a_cons (c_var 6) a_nil)))) a_nil)))))) sc_law_bars.nd) (ss_cons (o1 := []) (s_for (o1 := []) hpD rfl (i_range1 G.z_range (a_cons c_int a_nil)) (g_name 9 (o1 := []) sc_law_bars.nd) (ss_one (s_if (o1 := []) (t_not (t_val (c_call (I .law_bars) (run_len n .law_bars) hr G.m_law_bars G.k_law_bars G.b_law_bars tkD (a_cons (c_var 0) (a_cons (c_var 1) (a_cons (c_ix (b_of (c_var 2)) (c_add c_int (c_var 9))) (a_cons (c_var 3) (a_cons (c_add (c_var 4) (of_new (f_lst (a_cons (c_ix (b_of (c_var 8)) (c_var 9)) a_nil)))) (a_cons (c_sub (c_var 5) c_int) a_nil))))))))) (ss_one (s_ret c_bl)) ss_nil))) (ss_one (s_ret c_bl)))))))))))
theorem ok_law_copy (G : Glob K mg ad fd) (I : IH P w K mg base ad fd n) : FnOk P w K mg base (L2.CX P w) (n + 1) (ad .law_copy) (fd .law_copy) (pr .law_copy) (spX K mg (isNew .law_copy) (np .law_copy) (run (n + 1) .law_copy)) := by
  refine fn_mk (N := ["paper", "part"]) (ps := pr .law_copy) (o' := []) (mb := b_law_copy (run n)) G.f_law_copy sc_law_copy (fun cdv A outer s H E hr => ?_)
  unfold b_law_copy b_law_copy_1
  exact (ss_cons (o1 := []) (s_if (o1 := []) (t_val (c_isi (Ty := "tuple") (by decide) G.z_isinstance G.z_tuple (by decide +kernel) (c_var 0))) (ss_one (s_ret (c_tuple G.z_tuple (b_of (of_new (f_lc (own := ([("part", 1)] : List (Str × Nat))) (o1 := []) rfl sc_law_copy.nd (i_any (w_of (c_var 0))) (blkOk_by (own := [("part", 1)]) (N := ["paper", "part"]) (sc := defScope s_law_copy) (by decide +kernel)) (g := gName 1) (fun _ _ _ _ _ => pg_name (i := 1) sc_law_copy.nd rfl (Or.inl rfl)) (tg_name 1) (fun _ _ _ _ _ => q_nil) (fun _ _ _ _ _ => (c_call (I .law_copy) (run_len n .law_copy) hr G.m_law_copy G.k_law_copy G.b_law_copy takes0 (a_cons (c_var 1) a_nil))))))))) ss_nil) (ss_cons (o1 := []) (s_if (o1 := []) (t_val (c_isi (Ty := "list") (by decide) G.z_isinstance G.z_list (by decide +kernel) (c_var 0))) (ss_one (s_ret (of_new (f_list G.z_list (b_of (c_var 0)))))) ss_nil) (ss_one (s_ret (c_var 0)))))
theorem ok_law_leaf_drawn (G : Glob K mg ad fd) (I : IH P w K mg base ad fd n) : FnOk P w K mg base (L2.CX P w) (n + 1) (ad .law_leaf_drawn) (fd .law_leaf_drawn) (pr .law_leaf_drawn) (spX K mg (isNew .law_leaf_drawn) (np .law_leaf_drawn) (run (n + 1) .law_leaf_drawn)) := by
  refine fn_mk (N := ["cell", "told", "many", "honest", "last", "word", "k"]) (ps := pr .law_leaf_drawn) (o' := []) (mb := b_law_leaf_drawn (run n)) G.f_law_leaf_drawn sc_law_leaf_drawn (fun cdv A outer s H E hr => ?_)
  unfold b_law_leaf_drawn b_law_leaf_drawn_1
  exact (ss_cons (o1 := []) (s_if (o1 := []) (PW.pt (w_and (t_gt (c_len G.z_len (b_of (c_var 1))) c_int) (w_and1 (PW.pt (w_or (t_val (c_var 3)) (w_or1 (t_lt (c_mod (c_var 0) c_int) c_int))))))) (ss_cons (o1 := []) (s_set 4 (o1 := []) (c_ix (b_of (c_var 1)) (c_sub (c_sub (c_len G.z_len (b_of (c_var 1))) c_int) (c_mod (c_div (c_var 0) c_int) (c_min2 rfl G.z_min (a_cons c_int (a_cons (c_len G.z_len (b_of (c_var 1))) a_nil)))))) sc_law_leaf_drawn.nd) (ss_one (s_ret (c_tup (a_cons c_str (a_cons (c_ix (b_of (c_var 4)) c_int) (a_cons (of_new (f_lst (a_cons (c_ix (b_of (c_var 4)) c_int) (a_cons (c_ix (b_of (c_var 4)) c_int) a_nil)))) a_nil))))))) ss_nil) (ss_cons (o1 := []) (s_set 5 (o1 := []) (c_ix (b_of (c_tup (a_cons c_str (a_cons c_str a_nil)))) (c_mod (c_div (c_var 0) c_int) c_int)) sc_law_leaf_drawn.nd) (ss_one (s_ret (c_tup (a_cons c_str (a_cons (c_var 5) (a_cons (of_new (f_lc (own := ([("k", 6)] : List (Str × Nat))) (o1 := []) rfl sc_law_leaf_drawn.nd (i_range1 G.z_range (a_cons (c_mod (c_div (c_var 0) c_int) c_int) a_nil)) (blkOk_by (own := [("k", 6)]) (N := ["cell", "told", "many", "honest", "last", "word", "k"]) (sc := defScope s_law_leaf_drawn) (by decide +kernel)) (g := gName 6) (fun _ _ _ _ _ => pg_name (i := 6) sc_law_leaf_drawn.nd rfl (Or.inl rfl)) (tg_name 6) (fun _ _ _ _ _ => q_nil) (fun _ _ _ _ _ => (c_sub (c_mod (c_div (c_var 0) (c_add c_int (c_mul c_int (c_var 6)))) (c_add (c_var 2) c_int)) c_int)))) a_nil))))))))
theorem ok_law_drawn (G : Glob K mg ad fd) (I : IH P w K mg base ad fd n) : FnOk P w K mg base (L2.CX P w) (n + 1) (ad .law_drawn) (fd .law_drawn) (pr .law_drawn) (spX K mg (isNew .law_drawn) (np .law_drawn) (run (n + 1) .law_drawn)) := by
  refine fn_mk (N := ["script", "at", "room", "many", "told", "honest", "cell", "kind", "parts", "k", "i", "j", "way"]) (ps := pr .law_drawn) (o' := []) (mb := b_law_drawn (run n)) G.f_law_drawn sc_law_drawn (fun cdv A outer s H E hr => ?_)
  unfold b_law_drawn b_law_drawn_2 b_law_drawn_1
  exact (ss_cons (o1 := []) (s_set 6 (o1 := []) (c_add (c_mod (c_mul (c_call (I .law_cell) (run_len n .law_cell) hr G.m_law_cell G.k_law_cell G.b_law_cell tkD (a_cons (c_var 0) (a_cons (c_add c_int (c_mod (c_var 1) c_int)) a_nil))) c_int) c_int) (c_mod (c_mul (c_mul c_int (c_var 1)) (c_var 1)) c_int)) sc_law_drawn.nd) (ss_cons (o1 := []) (s_set 7 (o1 := []) (c_mod (c_var 6) c_int) sc_law_drawn.nd) (ss_cons (o1 := []) (s_set 6 (o1 := []) (c_div (c_var 6) c_int) sc_law_drawn.nd) (ss_cons (o1 := []) (s_if (o1 := []) (PW.pt (w_or (t_eq (u64 hr) (c_var 2) c_int) (w_or1 (PW.pt (w_and (t_eq (u64 hr) (c_var 7) c_int) (w_and1 (t_not (t_val (c_var 5))))))))) (ss_one (s_ret (c_call (I .law_leaf_drawn) (run_len n .law_leaf_drawn) hr G.m_law_leaf_drawn G.k_law_leaf_drawn G.b_law_leaf_drawn tkD (a_cons (c_var 6) (a_cons (c_var 4) (a_cons (c_var 3) (a_cons (c_var 5) a_nil))))))) ss_nil) (ss_cons (o1 := []) (s_if (o1 := []) (PW.pt (w_and (t_eq (u64 hr) (c_var 7) c_int) (w_and1 (t_not (t_val (c_var 5)))))) (ss_cons (o1 := [8]) (s_lc 8 (own := ([("k", 9)] : List (Str × Nat))) (o1 := []) (o2 := [8]) rfl sc_law_drawn.nd (i_any (w_of (c_tup (a_cons c_int (a_cons c_int a_nil))))) (blkOk_by (own := [("k", 9)]) (N := ["script", "at", "room", "many", "told", "honest", "cell", "kind", "parts", "k", "i", "j", "way"]) (sc := defScope s_law_drawn) (by decide +kernel)) (g := gName 9) (fun _ _ _ _ _ => pg_name (i := 9) sc_law_drawn.nd rfl (Or.inl rfl)) (tg_name 9) (fun _ _ _ _ _ => q_nil) (fun _ _ _ _ _ => (c_call (I .law_drawn) (run_len n .law_drawn) hr G.m_law_drawn G.k_law_drawn G.b_law_drawn takes0 (a_cons (c_var 0) (a_cons (c_add (c_mul (c_var 1) c_int) (c_var 9)) (a_cons (c_sub (c_var 2) c_int) (a_cons (c_var 3) (a_cons (c_var 4) (a_cons (c_var 5) a_nil)))))))) (sw_true rfl rfl rfl (by decide +kernel))) (ss_one (s_ret (c_tup (a_cons c_str (a_cons (c_sub (c_mod (c_var 6) (c_add (c_var 3) c_int)) c_int) (a_cons (c_ix (b_own 8) c_int) (a_cons (c_ix (b_own 8) c_int) a_nil)))))))) ss_nil) (ss_cons (o1 := []) (s_set 10 (o1 := []) (c_sub (c_mod (c_var 6) (c_add (c_var 3) c_int)) c_int) sc_law_drawn.nd) (ss_cons (o1 := []) (s_set 11 (o1 := []) (c_sub (c_mod (c_div (c_var 6) (c_add (c_var 3) c_int)) (c_add (c_var 3) c_int)) c_int) sc_law_drawn.nd) (ss_cons (o1 := []) (s_if (o1 := []) (t_val (c_var 5)) (ss_cons (o1 := []) (s_set 10 (o1 := []) (c_mod (c_var 6) (c_var 3)) sc_law_drawn.nd) (ss_one (s_set 11 (o1 := []) (c_mod (c_add (c_add (c_var 10) c_int) (c_mod (c_div (c_var 6) (c_var 3)) (c_max2 rfl G.z_max (a_cons c_int (a_cons (c_sub (c_var 3) c_int) a_nil))))) (c_var 3)) sc_law_drawn.nd))) ss_nil) (ss_cons (o1 := [8]) (s_own 8 (o1 := [8]) (f_lst a_nil) sc_law_drawn.nd) (ss_cons (o1 := [8]) (s_for (o1 := [8]) hpD rfl (i_any (w_of (of_new (f_lst (a_cons (c_tup (a_cons c_str (a_cons (c_var 10) (a_cons (c_var 11) a_nil)))) (a_cons (c_tup (a_cons c_str (a_cons (c_var 11) (a_cons (c_var 10) a_nil)))) (a_cons (c_tup (a_cons c_str (a_cons (c_var 10) (a_cons (c_var 11) a_nil)))) (a_cons (c_tup (a_cons c_str (a_cons (c_var 11) (a_cons (c_var 10) a_nil)))) a_nil)))))))) (g_name 12 (o1 := [8]) sc_law_drawn.nd) (ss_one (s_app 8 (c_call (I .law_drawn) (run_len n .law_drawn) hr G.m_law_drawn G.k_law_drawn G.b_law_drawn tkD (a_cons (c_var 0) (a_cons (c_add (c_add (c_mul (c_var 1) c_int) c_int) (c_len G.z_len (b_own 8))) (a_cons (c_sub (c_var 2) c_int) (a_cons (c_var 3) (a_cons (c_add (c_var 4) (of_new (f_lst (a_cons (c_var 12) a_nil)))) (a_cons (c_var 5) a_nil)))))))))) (ss_one (s_ret (c_tup (a_cons c_str (a_cons (c_var 10) (a_cons (c_var 11) (a_cons (c_ix (b_own 8) c_int) (a_cons (c_ix (b_own 8) c_int) (a_cons (c_ix (b_own 8) c_int) (a_cons (c_ix (b_own 8) c_int) a_nil))))))))))))))))))))
theorem ok_law_four (G : Glob K mg ad fd) (I : IH P w K mg base ad fd n) : FnOk P w K mg base (L2.CX P w) (n + 1) (ad .law_four) (fd .law_four) (pr .law_four) (spX K mg (isNew .law_four) (np .law_four) (run (n + 1) .law_four)) := by
  refine fn_new (N := ["i", "j"]) (ps := pr .law_four) G.f_law_four sc_law_four rfl (fun cdv A outer s H E hr => ?_)
  exact (f_lst (a_cons (c_tup (a_cons c_str (a_cons c_str (a_cons (of_new (f_lst (a_cons (c_var 0) (a_cons (c_var 1) a_nil)))) a_nil)))) (a_cons (c_tup (a_cons c_str (a_cons c_str (a_cons (of_new (f_lst (a_cons (c_var 1) (a_cons (c_var 0) a_nil)))) a_nil)))) (a_cons (c_tup (a_cons c_str (a_cons c_str (a_cons (of_new (f_lst (a_cons (c_var 0) (a_cons (c_var 1) a_nil)))) a_nil)))) (a_cons (c_tup (a_cons c_str (a_cons c_str (a_cons (of_new (f_lst (a_cons (c_var 1) (a_cons (c_var 0) a_nil)))) a_nil)))) a_nil)))))
theorem ok_law_deep (G : Glob K mg ad fd) (I : IH P w K mg base ad fd n) : FnOk P w K mg base (L2.CX P w) (n + 1) (ad .law_deep) (fd .law_deep) (pr .law_deep) (spX K mg (isNew .law_deep) (np .law_deep) (run (n + 1) .law_deep)) := by
  refine fn_mk (N := ["cell", "many", "bad", "paper", "k", "i", "at", "parts", "word", "numbers", "lists"]) (ps := pr .law_deep) (o' := []) (mb := b_law_deep (run n)) G.f_law_deep sc_law_deep (fun cdv A outer s H E hr => ?_)
  unfold b_law_deep b_law_deep_1
  exact (ss_cons (o1 := []) (s_set 3 (o1 := []) (c_tup (a_cons c_str (a_cons c_str (a_cons (of_new (f_lst (a_cons c_int (a_cons c_int a_nil)))) a_nil)))) sc_law_deep.nd) (ss_cons (o1 := []) (s_for (o1 := []) hpD rfl (i_range1 G.z_range (a_cons (c_var 1) a_nil)) (g_name 4 (o1 := []) sc_law_deep.nd) (ss_weak [7] (o1 := [7]) (ss_cons (o1 := []) (s_set 5 (o1 := []) (c_mod (c_var 0) c_int) sc_law_deep.nd) (ss_cons (o1 := []) (s_set 6 (o1 := []) (c_mod (c_div (c_var 0) c_int) c_int) sc_law_deep.nd) (ss_cons (o1 := []) (s_set 0 (o1 := []) (c_div (c_var 0) c_int) sc_law_deep.nd) (ss_cons (o1 := [7]) (s_own 7 (o1 := [7]) (f_call (I .law_four) (run_len n .law_four) hr G.m_law_four G.k_law_four G.b_law_four tkD (a_cons (c_var 5) (a_cons (c_sub c_int (c_var 5)) a_nil))) sc_law_deep.nd) (ss_cons (o1 := [7]) (s_if (o1 := [7]) (t_gt (c_var 4) c_int) (ss_one (s_setix 7 (u1 hr) (c_var 6) (c_var 3))) (ss_one (s_if (o1 := [7]) (t_gt (c_var 2) c_int) (ss_cons (o1 := [7]) (s_unp (o1 := [7]) (c_slice (b_of (c_ix (b_own 7) (c_var 6))) (p_some c_int) p_none) (g_tup rfl (g_cons (o1 := [7]) (g_name 8 (o1 := [7]) sc_law_deep.nd) (g_cons (o1 := [7]) (g_name 9 (o1 := [7]) sc_law_deep.nd) g_nil)))) (ss_cons (o1 := [7]) (s_set 10 (o1 := [7]) (of_new (f_lst (a_cons (c_var 9) (a_cons (of_new (f_lst a_nil)) (a_cons (of_new (f_lst (a_cons (c_ix (b_of (c_var 9)) c_int) (a_cons (c_ix (b_of (c_var 9)) c_int) a_nil)))) (a_cons (of_new (f_lst (a_cons (c_ix (b_of (c_var 9)) c_int) (a_cons c_int a_nil)))) (a_cons (c_add (c_var 9) (c_var 9)) a_nil))))))) sc_law_deep.nd) (ss_one (s_setix 7 (u1 hr) (c_var 6) (c_tup (a_cons c_str (a_cons (c_var 8) (a_cons (c_ix (b_of (c_var 10)) (c_var 2)) a_nil)))))))) ss_nil))) (ss_one (s_set 3 (o1 := [7]) (c_tup (a_cons c_str (a_cons (c_var 5) (a_cons (c_sub c_int (c_var 5)) (a_cons (c_ix (b_own 7) c_int) (a_cons (c_ix (b_own 7) c_int) (a_cons (c_ix (b_own 7) c_int) (a_cons (c_ix (b_own 7) c_int) a_nil)))))))) sc_law_deep.nd))))))))) (ss_one (s_ret (c_var 3)))))
theorem ok_law_deep_right (G : Glob K mg ad fd) (I : IH P w K mg base ad fd n) : FnOk P w K mg base (L2.CX P w) (n + 1) (ad .law_deep_right) (fd .law_deep_right) (pr .law_deep_right) (spX K mg (isNew .law_deep_right) (np .law_deep_right) (run (n + 1) .law_deep_right)) := by
  refine fn_mk (N := ["script", "unit", "wares", "k", "cell", "box", "paper", "due", "kept", "found"]) (ps := pr .law_deep_right) (o' := []) (mb := b_law_deep_right (run n)) G.f_law_deep_right sc_law_deep_right (fun cdv A outer s H E hr => ?_)
  unfold b_law_deep_right b_law_deep_right_1
  exact (ss_cons (o1 := []) (s_weak [2] (o1 := [2]) (s_lc 2 (own := ([("k", 3)] : List (Str × Nat))) (o1 := []) (o2 := [2]) rfl sc_law_deep_right.nd (i_range1 G.z_range (a_cons c_int a_nil)) (blkOk_by (own := [("k", 3)]) (N := ["script", "unit", "wares", "k", "cell", "box", "paper", "due", "kept", "found"]) (sc := defScope s_law_deep_right) (by decide +kernel)) (g := gName 3) (fun _ _ _ _ _ => pg_name (i := 3) sc_law_deep_right.nd rfl (Or.inl rfl)) (tg_name 3) (fun _ _ _ _ _ => q_nil) (fun _ _ _ _ _ => (c_call (I .law_ware) (run_len n .law_ware) hr G.m_law_ware G.k_law_ware G.b_law_ware takes0 (a_cons (c_call (I .law_cell) (run_len n .law_cell) hr G.m_law_cell G.k_law_cell G.b_law_cell takes0 (a_cons (c_var 0) (a_cons (c_add c_int (c_var 3)) a_nil))) (a_cons (c_var 1) (a_cons c_bl a_nil))))) (sw_true rfl rfl rfl (by decide +kernel)))) (ss_cons (o1 := []) (s_set 4 (o1 := []) (c_call (I .law_cell) (run_len n .law_cell) hr G.m_law_cell G.k_law_cell G.b_law_cell tkD (a_cons (c_var 0) (a_cons c_int a_nil))) sc_law_deep_right.nd) (ss_cons (o1 := []) (s_set 5 (o1 := []) (c_tup (a_cons (c_add (c_sub (c_add (c_ix (b_of (c_ix (b_of (c_var 2)) c_int)) c_int) (c_ix (b_of (c_ix (b_of (c_var 2)) c_int)) c_int)) c_int) (c_div (c_mod (c_var 4) c_int) c_int)) (a_cons (c_add (c_sub (c_add (c_ix (b_of (c_ix (b_of (c_var 2)) c_int)) c_int) (c_ix (b_of (c_ix (b_of (c_var 2)) c_int)) c_int)) c_int) (c_div (c_mod (c_div (c_var 4) c_int) c_int) c_int)) a_nil))) sc_law_deep_right.nd) (ss_cons (o1 := []) (s_set 6 (o1 := []) (c_call (I .law_deep) (run_len n .law_deep) hr G.m_law_deep G.k_law_deep G.b_law_deep tkD (a_cons (c_call (I .law_cell) (run_len n .law_cell) hr G.m_law_cell G.k_law_cell G.b_law_cell tkD (a_cons (c_var 0) (a_cons c_int a_nil))) (a_cons (c_mod (c_add (c_call (I .law_cell) (run_len n .law_cell) hr G.m_law_cell G.k_law_cell G.b_law_cell tkD (a_cons (c_var 0) (a_cons c_int a_nil))) (c_div (c_var 4) c_int)) c_int) (a_cons (c_mod (c_mod (c_call (I .law_cell) (run_len n .law_cell) hr G.m_law_cell G.k_law_cell G.b_law_cell tkD (a_cons (c_var 0) (a_cons c_int a_nil))) c_int) c_int) a_nil)))) sc_law_deep_right.nd) (ss_cons (o1 := []) (s_set 7 (o1 := []) (c_call (I .law_bars) (run_len n .law_bars) hr G.m_law_bars G.k_law_bars G.b_law_bars tkD (a_cons (c_var 5) (a_cons (c_var 2) (a_cons (c_var 6) (a_cons (of_new f_empty) (a_cons (of_new (f_lst a_nil)) (a_cons c_int a_nil))))))) sc_law_deep_right.nd) (ss_cons (o1 := []) (s_set 8 (o1 := []) (c_call (I .law_copy) (run_len n .law_copy) hr G.m_law_copy G.k_law_copy G.b_law_copy tkD (a_cons (c_var 6) a_nil)) sc_law_deep_right.nd) (ss_cons (o1 := []) (s_set 9 (o1 := []) (c_call (I .bars_all) (run_len n .bars_all) hr G.m_bars_all G.k_bars_all G.b_bars_all tkD (a_cons (c_var 5) (a_cons (of_new (f_list G.z_list (b_of (c_var 2)))) (a_cons (c_var 6) a_nil)))) sc_law_deep_right.nd) (ss_one (s_ret (c_and (c_isi (Ty := "bool") (by decide) G.z_isinstance G.z_bool (by decide +kernel) (c_var 9)) (c_and (c_eq (u64 hr) (c_var 9) (c_var 7)) (c_one (c_eq (u64 hr) (c_var 6) (c_var 8))))))))))))))
theorem ok_law_ware (G : Glob K mg ad fd) (I : IH P w K mg base ad fd n) : FnOk P w K mg base (L2.CX P w) (n + 1) (ad .law_ware) (fd .law_ware) (pr .law_ware) (spX K mg (isNew .law_ware) (np .law_ware) (run (n + 1) .law_ware)) := by
  refine fn_mk (N := ["cell", "unit", "turns", "w", "h"]) (ps := pr .law_ware) (o' := []) (mb := b_law_ware (run n)) G.f_law_ware sc_law_ware (fun cdv A outer s H E hr => ?_)
  unfold b_law_ware
  exact (ss_cons (o1 := []) (s_set 3 (o1 := []) (c_add (c_mul (c_var 1) (c_add c_int (c_mod (c_var 0) c_int))) (c_mod (c_div (c_var 0) c_int) c_int)) sc_law_ware.nd) (ss_cons (o1 := []) (s_set 4 (o1 := []) (c_add (c_mul (c_var 1) (c_add c_int (c_mod (c_div (c_var 0) c_int) c_int))) (c_mod (c_div (c_var 0) c_int) c_int)) sc_law_ware.nd) (ss_one (s_ret (c_tup (a_cons (c_var 3) (a_cons (c_var 4) (a_cons (c_and (c_var 2) (c_one (c_eq (u64 hr) (c_mod (c_div (c_var 0) c_int) c_int) c_int))) a_nil))))))))
theorem ok_law (G : Glob K mg ad fd) (I : IH P w K mg base ad fd n) : FnOk P w K mg base (L2.CX P w) (n + 1) (ad .law) (fd .law) (pr .law) (spX K mg (isNew .law) (np .law) (run (n + 1) .law)) := by
  refine fn_mk (N := ["script", "many", "honest", "unit", "wares", "k", "box", "side", "ware", "paper", "due", "kept", "handed", "turn", "found"]) (ps := pr .law) (o' := []) (mb := b_law (run n)) G.f_law sc_law (fun cdv A outer s H E hr => ?_)
  unfold b_law b_law_3 b_law_2 b_law_1
  exact (ss_cons (o1 := []) (s_set 1 (o1 := []) (c_add c_int (c_mod (c_call (I .law_cell) (run_len n .law_cell) hr G.m_law_cell G.k_law_cell G.b_law_cell tkD (a_cons (c_var 0) (a_cons c_int a_nil))) c_int)) sc_law.nd) (ss_cons (o1 := []) (s_set 2 (o1 := []) (c_eq (u64 hr) (c_mod (c_div (c_call (I .law_cell) (run_len n .law_cell) hr G.m_law_cell G.k_law_cell G.b_law_cell tkD (a_cons (c_var 0) (a_cons c_int a_nil))) c_int) c_int) c_int) sc_law.nd) (ss_cons (o1 := []) (s_set 3 (o1 := []) (c_add c_int (c_mod (c_call (I .law_cell) (run_len n .law_cell) hr G.m_law_cell G.k_law_cell G.b_law_cell tkD (a_cons (c_var 0) (a_cons c_int a_nil))) (c_pow c_int c_int))) sc_law.nd) (ss_cons (o1 := []) (s_weak [4] (o1 := [4]) (s_lc 4 (own := ([("k", 5)] : List (Str × Nat))) (o1 := []) (o2 := [4]) rfl sc_law.nd (i_range1 G.z_range (a_cons (c_var 1) a_nil)) (blkOk_by (own := [("k", 5)]) (N := ["script", "many", "honest", "unit", "wares", "k", "box", "side", "ware", "paper", "due", "kept", "handed", "turn", "found"]) (sc := defScope s_law) (by decide +kernel)) (g := gName 5) (fun _ _ _ _ _ => pg_name (i := 5) sc_law.nd rfl (Or.inl rfl)) (tg_name 5) (fun _ _ _ _ _ => q_nil) (fun _ _ _ _ _ => (c_call (I .law_ware) (run_len n .law_ware) hr G.m_law_ware G.k_law_ware G.b_law_ware takes0 (a_cons (c_call (I .law_cell) (run_len n .law_cell) hr G.m_law_cell G.k_law_cell G.b_law_cell takes0 (a_cons (c_var 0) (a_cons (c_add c_int (c_var 5)) a_nil))) (a_cons (c_var 3) (a_cons (c_not (c_var 2)) a_nil))))) (sw_true rfl rfl rfl (by decide +kernel)))) (ss_cons (o1 := []) (s_set 6 (o1 := []) (c_tup (a_cons (c_mod (c_call (I .law_cell) (run_len n .law_cell) hr G.m_law_cell G.k_law_cell G.b_law_cell tkD (a_cons (c_var 0) (a_cons c_int a_nil))) (c_mul c_int (c_var 3))) (a_cons (c_mod (c_call (I .law_cell) (run_len n .law_cell) hr G.m_law_cell G.k_law_cell G.b_law_cell tkD (a_cons (c_var 0) (a_cons c_int a_nil))) (c_mul c_int (c_var 3))) a_nil))) sc_law.nd) (ss_cons (o1 := []) (s_if (o1 := []) (t_eq (u64 hr) (c_mod (c_call (I .law_cell) (run_len n .law_cell) hr G.m_law_cell G.k_law_cell G.b_law_cell tkD (a_cons (c_var 0) (a_cons c_int a_nil))) c_int) c_int) (ss_cons (o1 := []) (s_set 7 (o1 := []) (c_max rfl G.z_max (b_of (of_new (f_lc (own := ([("ware", 8)] : List (Str × Nat))) (o1 := []) rfl sc_law.nd (i_any (w_of (c_var 4))) (blkOk_by (own := [("ware", 8)]) (N := ["script", "many", "honest", "unit", "wares", "k", "box", "side", "ware", "paper", "due", "kept", "handed", "turn", "found"]) (sc := defScope s_law) (by decide +kernel)) (g := gName 8) (fun _ _ _ _ _ => pg_name (i := 8) sc_law.nd rfl (Or.inl rfl)) (tg_name 8) (fun _ _ _ _ _ => q_nil) (fun _ _ _ _ _ => (c_max2 rfl G.z_max (a_cons (c_ix (b_of (c_var 8)) c_int) (a_cons (c_ix (b_of (c_var 8)) c_int) a_nil)))))))) sc_law.nd) (ss_one (s_set 6 (o1 := []) (c_tup (a_cons (c_var 7) (a_cons (c_var 7) a_nil))) sc_law.nd))) ss_nil) (ss_cons (o1 := []) (s_set 9 (o1 := []) (c_call (I .law_drawn) (run_len n .law_drawn) hr G.m_law_drawn G.k_law_drawn G.b_law_drawn tkD (a_cons (c_var 0) (a_cons c_int (a_cons (c_add c_int (c_mod (c_div (c_call (I .law_cell) (run_len n .law_cell) hr G.m_law_cell G.k_law_cell G.b_law_cell tkD (a_cons (c_var 0) (a_cons c_int a_nil))) c_int) c_int)) (a_cons (c_var 1) (a_cons (of_new (f_lst a_nil)) (a_cons (c_var 2) a_nil))))))) sc_law.nd) (ss_cons (o1 := []) (s_set 10 (o1 := []) (c_call (I .law_bars) (run_len n .law_bars) hr G.m_law_bars G.k_law_bars G.b_law_bars tkD (a_cons (c_var 6) (a_cons (c_var 4) (a_cons (c_var 9) (a_cons (of_new f_empty) (a_cons (of_new (f_lst a_nil)) (a_cons c_int a_nil))))))) sc_law.nd) (ss_cons (o1 := []) (s_set 11 (o1 := []) (c_call (I .law_copy) (run_len n .law_copy) hr G.m_law_copy G.k_law_copy G.b_law_copy tkD (a_cons (c_var 9) a_nil)) sc_law.nd) (ss_cons (o1 := []) (s_set 12 (o1 := []) (of_new (f_list G.z_list (b_of (c_var 4)))) sc_law.nd) (ss_cons (o1 := []) (s_for (o1 := []) hpD rfl (i_range1 G.z_range (a_cons c_int a_nil)) (g_name 13 (o1 := []) sc_law.nd) (ss_cons (o1 := []) (s_set 14 (o1 := []) (c_call (I .bars_all) (run_len n .bars_all) hr G.m_bars_all G.k_bars_all G.b_bars_all tkD (a_cons (c_var 6) (a_cons (c_var 12) (a_cons (c_var 9) a_nil)))) sc_law.nd) (ss_one (s_if (o1 := []) (PW.pt (w_or (t_not (t_val (c_isi (Ty := "bool") (by decide) G.z_isinstance G.z_bool (by decide +kernel) (c_var 14)))) (w_or1 (t_ne (u64 hr) (c_var 14) (c_var 10))))) (ss_one (s_ret c_bl)) ss_nil)))) (ss_one (s_ret (c_and (c_eq (u64 hr) (c_var 9) (c_var 11)) (c_and (c_eq (u64 hr) (c_var 12) (c_var 4)) (c_one (c_call (I .law_deep_right) (run_len n .law_deep_right) hr G.m_law_deep_right G.k_law_deep_right G.b_law_deep_right tkD (a_cons (c_var 0) (a_cons (c_var 3) a_nil)))))))))))))))))))
theorem all_ok (G : Glob K mg ad fd) : ∀ n, IH P w K mg base ad fd n
  | 0 => fun g => none_left fun _ => rfl
  | n + 1 => fun g => by
    have I := all_ok G n
    cases g
    · exact ok_sides_of G I
    · exact ok_lies_of G I
    · exact ok_ways_of G I
    · exact ok_side_of_box G I
    · exact ok_chain_total G I
    · exact ok_leaf_right G I
    · exact ok_turn_right G I
    · exact ok_pair_right G I
    · exact ok_way_right G I
    · exact ok_bars_all G I
    · exact ok_law_cell G I
    · exact ok_law_sides G I
    · exact ok_law_two G I
    · exact ok_law_whole G I
    · exact ok_law_leaf G I
    · exact ok_law_turn G I
    · exact ok_law_bars G I
    · exact ok_law_copy G I
    · exact ok_law_leaf_drawn G I
    · exact ok_law_drawn G I
    · exact ok_law_four G I
    · exact ok_law_deep G I
    · exact ok_law_deep_right G I
    · exact ok_law_ware G I
    · exact ok_law G I
end
theorem all_mk {l : PySem.W.OpenLaw} {w : World} {K : PySem.W.Frag} {h : Heap} {mg : Str → Option Value} {fa : Addr} (X : K.In h) (G : h.Ns mainGlobals mg) (hfa : mg "law" = some (.ref fa))
    {f0 : Addr} {od0 an0 : Option Addr} {sl0 : Array (Option Value)} {oc0 kV0 dc0 pm0 cd0 ct0 : Value}
    (a0 : PySem.W.nsIn K mainGlobals "sides_of" = some (some (.ref f0))) (l0 : K.lookup f0 = some ⟨oc0, od0, .func (PySem.W.fnOf "sides_of" "sides_of" (defArgs s_sides_of) (defBody s_sides_of) (defScope s_sides_of) .none kV0 dc0 pm0 an0 cd0 ct0), sl0⟩) (c0 : PySem.W.codeIn K cd0 "sides_of" = true) (k0 : PySem.W.keepIn K (.ref f0) = true)
    {f1 : Addr} {od1 an1 : Option Addr} {sl1 : Array (Option Value)} {oc1 kV1 dc1 pm1 cd1 ct1 : Value}
    (a1 : PySem.W.nsIn K mainGlobals "lies_of" = some (some (.ref f1))) (l1 : K.lookup f1 = some ⟨oc1, od1, .func (PySem.W.fnOf "lies_of" "lies_of" (defArgs s_lies_of) (defBody s_lies_of) (defScope s_lies_of) .none kV1 dc1 pm1 an1 cd1 ct1), sl1⟩) (c1 : PySem.W.codeIn K cd1 "lies_of" = true) (k1 : PySem.W.keepIn K (.ref f1) = true)
    {f2 : Addr} {od2 an2 : Option Addr} {sl2 : Array (Option Value)} {oc2 kV2 dc2 pm2 cd2 ct2 : Value}
    (a2 : PySem.W.nsIn K mainGlobals "ways_of" = some (some (.ref f2))) (l2 : K.lookup f2 = some ⟨oc2, od2, .func (PySem.W.fnOf "ways_of" "ways_of" (defArgs s_ways_of) (defBody s_ways_of) (defScope s_ways_of) .none kV2 dc2 pm2 an2 cd2 ct2), sl2⟩) (c2 : PySem.W.codeIn K cd2 "ways_of" = true) (k2 : PySem.W.keepIn K (.ref f2) = true)
    {f3 : Addr} {od3 an3 : Option Addr} {sl3 : Array (Option Value)} {oc3 kV3 dc3 pm3 cd3 ct3 : Value}
    (a3 : PySem.W.nsIn K mainGlobals "side_of_box" = some (some (.ref f3))) (l3 : K.lookup f3 = some ⟨oc3, od3, .func (PySem.W.fnOf "side_of_box" "side_of_box" (defArgs s_side_of_box) (defBody s_side_of_box) (defScope s_side_of_box) .none kV3 dc3 pm3 an3 cd3 ct3), sl3⟩) (c3 : PySem.W.codeIn K cd3 "side_of_box" = true) (k3 : PySem.W.keepIn K (.ref f3) = true)
    {f4 : Addr} {od4 an4 : Option Addr} {sl4 : Array (Option Value)} {oc4 kV4 dc4 pm4 cd4 ct4 : Value}
    (a4 : PySem.W.nsIn K mainGlobals "chain_total" = some (some (.ref f4))) (l4 : K.lookup f4 = some ⟨oc4, od4, .func (PySem.W.fnOf "chain_total" "chain_total" (defArgs s_chain_total) (defBody s_chain_total) (defScope s_chain_total) .none kV4 dc4 pm4 an4 cd4 ct4), sl4⟩) (c4 : PySem.W.codeIn K cd4 "chain_total" = true) (k4 : PySem.W.keepIn K (.ref f4) = true)
    {f5 : Addr} {od5 an5 : Option Addr} {sl5 : Array (Option Value)} {oc5 kV5 dc5 pm5 cd5 ct5 : Value}
    (a5 : PySem.W.nsIn K mainGlobals "leaf_right" = some (some (.ref f5))) (l5 : K.lookup f5 = some ⟨oc5, od5, .func (PySem.W.fnOf "leaf_right" "leaf_right" (defArgs s_leaf_right) (defBody s_leaf_right) (defScope s_leaf_right) .none kV5 dc5 pm5 an5 cd5 ct5), sl5⟩) (c5 : PySem.W.codeIn K cd5 "leaf_right" = true) (k5 : PySem.W.keepIn K (.ref f5) = true)
    {f6 : Addr} {od6 an6 : Option Addr} {sl6 : Array (Option Value)} {oc6 kV6 dc6 pm6 cd6 ct6 : Value}
    (a6 : PySem.W.nsIn K mainGlobals "turn_right" = some (some (.ref f6))) (l6 : K.lookup f6 = some ⟨oc6, od6, .func (PySem.W.fnOf "turn_right" "turn_right" (defArgs s_turn_right) (defBody s_turn_right) (defScope s_turn_right) .none kV6 dc6 pm6 an6 cd6 ct6), sl6⟩) (c6 : PySem.W.codeIn K cd6 "turn_right" = true) (k6 : PySem.W.keepIn K (.ref f6) = true)
    {f7 : Addr} {od7 an7 : Option Addr} {sl7 : Array (Option Value)} {oc7 kV7 dc7 pm7 cd7 ct7 : Value}
    (a7 : PySem.W.nsIn K mainGlobals "pair_right" = some (some (.ref f7))) (l7 : K.lookup f7 = some ⟨oc7, od7, .func (PySem.W.fnOf "pair_right" "pair_right" (defArgs s_pair_right) (defBody s_pair_right) (defScope s_pair_right) .none kV7 dc7 pm7 an7 cd7 ct7), sl7⟩) (c7 : PySem.W.codeIn K cd7 "pair_right" = true) (k7 : PySem.W.keepIn K (.ref f7) = true)
    {f8 : Addr} {od8 an8 : Option Addr} {sl8 : Array (Option Value)} {oc8 kV8 dc8 pm8 cd8 ct8 : Value}
    (a8 : PySem.W.nsIn K mainGlobals "way_right" = some (some (.ref f8))) (l8 : K.lookup f8 = some ⟨oc8, od8, .func (PySem.W.fnOf "way_right" "way_right" (defArgs s_way_right) (defBody s_way_right) (defScope s_way_right) .none kV8 dc8 pm8 an8 cd8 ct8), sl8⟩) (c8 : PySem.W.codeIn K cd8 "way_right" = true) (k8 : PySem.W.keepIn K (.ref f8) = true)
    {f9 : Addr} {od9 an9 : Option Addr} {sl9 : Array (Option Value)} {oc9 kV9 dc9 pm9 cd9 ct9 : Value}
    (a9 : PySem.W.nsIn K mainGlobals "bars_all" = some (some (.ref f9))) (l9 : K.lookup f9 = some ⟨oc9, od9, .func (PySem.W.fnOf "bars_all" "bars_all" (defArgs s_bars_all) (defBody s_bars_all) (defScope s_bars_all) .none kV9 dc9 pm9 an9 cd9 ct9), sl9⟩) (c9 : PySem.W.codeIn K cd9 "bars_all" = true) (k9 : PySem.W.keepIn K (.ref f9) = true)
    {f10 : Addr} {od10 an10 : Option Addr} {sl10 : Array (Option Value)} {oc10 kV10 dc10 pm10 cd10 ct10 : Value}
    (a10 : PySem.W.nsIn K mainGlobals "_law_cell" = some (some (.ref f10))) (l10 : K.lookup f10 = some ⟨oc10, od10, .func (PySem.W.fnOf "_law_cell" "_law_cell" (defArgs s_law_cell) (defBody s_law_cell) (defScope s_law_cell) .none kV10 dc10 pm10 an10 cd10 ct10), sl10⟩) (c10 : PySem.W.codeIn K cd10 "_law_cell" = true) (k10 : PySem.W.keepIn K (.ref f10) = true)
    {f11 : Addr} {od11 an11 : Option Addr} {sl11 : Array (Option Value)} {oc11 kV11 dc11 pm11 cd11 ct11 : Value}
    (a11 : PySem.W.nsIn K mainGlobals "_law_sides" = some (some (.ref f11))) (l11 : K.lookup f11 = some ⟨oc11, od11, .func (PySem.W.fnOf "_law_sides" "_law_sides" (defArgs s_law_sides) (defBody s_law_sides) (defScope s_law_sides) .none kV11 dc11 pm11 an11 cd11 ct11), sl11⟩) (c11 : PySem.W.codeIn K cd11 "_law_sides" = true) (k11 : PySem.W.keepIn K (.ref f11) = true)
    {f12 : Addr} {od12 an12 : Option Addr} {sl12 : Array (Option Value)} {oc12 kV12 dc12 pm12 cd12 ct12 : Value}
    (a12 : PySem.W.nsIn K mainGlobals "_law_two" = some (some (.ref f12))) (l12 : K.lookup f12 = some ⟨oc12, od12, .func (PySem.W.fnOf "_law_two" "_law_two" (defArgs s_law_two) (defBody s_law_two) (defScope s_law_two) .none kV12 dc12 pm12 an12 cd12 ct12), sl12⟩) (c12 : PySem.W.codeIn K cd12 "_law_two" = true) (k12 : PySem.W.keepIn K (.ref f12) = true)
    {f13 : Addr} {od13 an13 : Option Addr} {sl13 : Array (Option Value)} {oc13 kV13 dc13 pm13 cd13 ct13 : Value}
    (a13 : PySem.W.nsIn K mainGlobals "_law_whole" = some (some (.ref f13))) (l13 : K.lookup f13 = some ⟨oc13, od13, .func (PySem.W.fnOf "_law_whole" "_law_whole" (defArgs s_law_whole) (defBody s_law_whole) (defScope s_law_whole) .none kV13 dc13 pm13 an13 cd13 ct13), sl13⟩) (c13 : PySem.W.codeIn K cd13 "_law_whole" = true) (k13 : PySem.W.keepIn K (.ref f13) = true)
    {f14 : Addr} {od14 an14 : Option Addr} {sl14 : Array (Option Value)} {oc14 kV14 dc14 pm14 cd14 ct14 : Value}
    (a14 : PySem.W.nsIn K mainGlobals "_law_leaf" = some (some (.ref f14))) (l14 : K.lookup f14 = some ⟨oc14, od14, .func (PySem.W.fnOf "_law_leaf" "_law_leaf" (defArgs s_law_leaf) (defBody s_law_leaf) (defScope s_law_leaf) .none kV14 dc14 pm14 an14 cd14 ct14), sl14⟩) (c14 : PySem.W.codeIn K cd14 "_law_leaf" = true) (k14 : PySem.W.keepIn K (.ref f14) = true)
    {f15 : Addr} {od15 an15 : Option Addr} {sl15 : Array (Option Value)} {oc15 kV15 dc15 pm15 cd15 ct15 : Value}
    (a15 : PySem.W.nsIn K mainGlobals "_law_turn" = some (some (.ref f15))) (l15 : K.lookup f15 = some ⟨oc15, od15, .func (PySem.W.fnOf "_law_turn" "_law_turn" (defArgs s_law_turn) (defBody s_law_turn) (defScope s_law_turn) .none kV15 dc15 pm15 an15 cd15 ct15), sl15⟩) (c15 : PySem.W.codeIn K cd15 "_law_turn" = true) (k15 : PySem.W.keepIn K (.ref f15) = true)
    {f16 : Addr} {od16 an16 : Option Addr} {sl16 : Array (Option Value)} {oc16 kV16 dc16 pm16 cd16 ct16 : Value}
    (a16 : PySem.W.nsIn K mainGlobals "_law_bars" = some (some (.ref f16))) (l16 : K.lookup f16 = some ⟨oc16, od16, .func (PySem.W.fnOf "_law_bars" "_law_bars" (defArgs s_law_bars) (defBody s_law_bars) (defScope s_law_bars) .none kV16 dc16 pm16 an16 cd16 ct16), sl16⟩) (c16 : PySem.W.codeIn K cd16 "_law_bars" = true) (k16 : PySem.W.keepIn K (.ref f16) = true)
    {f17 : Addr} {od17 an17 : Option Addr} {sl17 : Array (Option Value)} {oc17 kV17 dc17 pm17 cd17 ct17 : Value}
    (a17 : PySem.W.nsIn K mainGlobals "_law_copy" = some (some (.ref f17))) (l17 : K.lookup f17 = some ⟨oc17, od17, .func (PySem.W.fnOf "_law_copy" "_law_copy" (defArgs s_law_copy) (defBody s_law_copy) (defScope s_law_copy) .none kV17 dc17 pm17 an17 cd17 ct17), sl17⟩) (c17 : PySem.W.codeIn K cd17 "_law_copy" = true) (k17 : PySem.W.keepIn K (.ref f17) = true)
    {f18 : Addr} {od18 an18 : Option Addr} {sl18 : Array (Option Value)} {oc18 kV18 dc18 pm18 cd18 ct18 : Value}
    (a18 : PySem.W.nsIn K mainGlobals "_law_leaf_drawn" = some (some (.ref f18))) (l18 : K.lookup f18 = some ⟨oc18, od18, .func (PySem.W.fnOf "_law_leaf_drawn" "_law_leaf_drawn" (defArgs s_law_leaf_drawn) (defBody s_law_leaf_drawn) (defScope s_law_leaf_drawn) .none kV18 dc18 pm18 an18 cd18 ct18), sl18⟩) (c18 : PySem.W.codeIn K cd18 "_law_leaf_drawn" = true) (k18 : PySem.W.keepIn K (.ref f18) = true)
    {f19 : Addr} {od19 an19 : Option Addr} {sl19 : Array (Option Value)} {oc19 kV19 dc19 pm19 cd19 ct19 : Value}
    (a19 : PySem.W.nsIn K mainGlobals "_law_drawn" = some (some (.ref f19))) (l19 : K.lookup f19 = some ⟨oc19, od19, .func (PySem.W.fnOf "_law_drawn" "_law_drawn" (defArgs s_law_drawn) (defBody s_law_drawn) (defScope s_law_drawn) .none kV19 dc19 pm19 an19 cd19 ct19), sl19⟩) (c19 : PySem.W.codeIn K cd19 "_law_drawn" = true) (k19 : PySem.W.keepIn K (.ref f19) = true)
    {f20 : Addr} {od20 an20 : Option Addr} {sl20 : Array (Option Value)} {oc20 kV20 dc20 pm20 cd20 ct20 : Value}
    (a20 : PySem.W.nsIn K mainGlobals "_law_four" = some (some (.ref f20))) (l20 : K.lookup f20 = some ⟨oc20, od20, .func (PySem.W.fnOf "_law_four" "_law_four" (defArgs s_law_four) (defBody s_law_four) (defScope s_law_four) .none kV20 dc20 pm20 an20 cd20 ct20), sl20⟩) (c20 : PySem.W.codeIn K cd20 "_law_four" = true) (k20 : PySem.W.keepIn K (.ref f20) = true)
    {f21 : Addr} {od21 an21 : Option Addr} {sl21 : Array (Option Value)} {oc21 kV21 dc21 pm21 cd21 ct21 : Value}
    (a21 : PySem.W.nsIn K mainGlobals "_law_deep" = some (some (.ref f21))) (l21 : K.lookup f21 = some ⟨oc21, od21, .func (PySem.W.fnOf "_law_deep" "_law_deep" (defArgs s_law_deep) (defBody s_law_deep) (defScope s_law_deep) .none kV21 dc21 pm21 an21 cd21 ct21), sl21⟩) (c21 : PySem.W.codeIn K cd21 "_law_deep" = true) (k21 : PySem.W.keepIn K (.ref f21) = true)
    {f22 : Addr} {od22 an22 : Option Addr} {sl22 : Array (Option Value)} {oc22 kV22 dc22 pm22 cd22 ct22 : Value}
    (a22 : PySem.W.nsIn K mainGlobals "_law_deep_right" = some (some (.ref f22))) (l22 : K.lookup f22 = some ⟨oc22, od22, .func (PySem.W.fnOf "_law_deep_right" "_law_deep_right" (defArgs s_law_deep_right) (defBody s_law_deep_right) (defScope s_law_deep_right) .none kV22 dc22 pm22 an22 cd22 ct22), sl22⟩) (c22 : PySem.W.codeIn K cd22 "_law_deep_right" = true) (k22 : PySem.W.keepIn K (.ref f22) = true)
    {f23 : Addr} {od23 an23 : Option Addr} {sl23 : Array (Option Value)} {oc23 kV23 dc23 pm23 cd23 ct23 : Value}
    (a23 : PySem.W.nsIn K mainGlobals "_law_ware" = some (some (.ref f23))) (l23 : K.lookup f23 = some ⟨oc23, od23, .func (PySem.W.fnOf "_law_ware" "_law_ware" (defArgs s_law_ware) (defBody s_law_ware) (defScope s_law_ware) .none kV23 dc23 pm23 an23 cd23 ct23), sl23⟩) (c23 : PySem.W.codeIn K cd23 "_law_ware" = true) (k23 : PySem.W.keepIn K (.ref f23) = true)
    {f24 : Addr} {od24 an24 : Option Addr} {sl24 : Array (Option Value)} {oc24 kV24 dc24 pm24 cd24 ct24 : Value}
    (a24 : PySem.W.nsIn K mainGlobals "law" = some (some (.ref f24))) (l24 : K.lookup f24 = some ⟨oc24, od24, .func (PySem.W.fnOf "law" "law" (defArgs s_law) (defBody s_law) (defScope s_law) .none kV24 dc24 pm24 an24 cd24 ct24), sl24⟩) (c24 : PySem.W.codeIn K cd24 "law" = true) (k24 : PySem.W.keepIn K (.ref f24) = true)
    (z_len : PySem.W.nsIn K mainGlobals "len" = some none)
    (z_zip : PySem.W.nsIn K mainGlobals "zip" = some none)
    (z_dict : PySem.W.nsIn K mainGlobals "dict" = some none)
    (z_int : PySem.W.nsIn K mainGlobals "int" = some none)
    (z_isinstance : PySem.W.nsIn K mainGlobals "isinstance" = some none)
    (z_bool : PySem.W.nsIn K mainGlobals "bool" = some none)
    (z_list : PySem.W.nsIn K mainGlobals "list" = some none)
    (z_tuple : PySem.W.nsIn K mainGlobals "tuple" = some none)
    (z_range : PySem.W.nsIn K mainGlobals "range" = some none)
    (z_min : PySem.W.nsIn K mainGlobals "min" = some none)
    (z_max : PySem.W.nsIn K mainGlobals "max" = some none)
    (pure : ∀ ns : List Int, ns.length ≤ 63 → (∀ z ∈ ns, Builtin.Int.intBits z ≤ 1048576) → run 200 .law [.lst (ns.map D.int)] = .ok (.bl true)) :
    ∃ fd : FuncData, (∀ (s : Shared) (v : Value), BindsTo s fd ⟨[v], []⟩ [("script", v)]) ∧ ∀ base : Heap, K.In base → base.Ns mainGlobals mg → FnOk l.prog w K mg base (L2.CX l.prog w) 200 fa fd ["script"] (spLaw K) := by
  have e : f24 = fa := by have z := hfa.symm.trans (PySem.W.mg_of X G a24); cases z; rfl
  subst e
  have F0 := fun_mk (st := s_sides_of) l0 c0 k0
  have F1 := fun_mk (st := s_lies_of) l1 c1 k1
  have F2 := fun_mk (st := s_ways_of) l2 c2 k2
  have F3 := fun_mk (st := s_side_of_box) l3 c3 k3
  have F4 := fun_mk (st := s_chain_total) l4 c4 k4
  have F5 := fun_mk (st := s_leaf_right) l5 c5 k5
  have F6 := fun_mk (st := s_turn_right) l6 c6 k6
  have F7 := fun_mk (st := s_pair_right) l7 c7 k7
  have F8 := fun_mk (st := s_way_right) l8 c8 k8
  have F9 := fun_mk (st := s_bars_all) l9 c9 k9
  have F10 := fun_mk (st := s_law_cell) l10 c10 k10
  have F11 := fun_mk (st := s_law_sides) l11 c11 k11
  have F12 := fun_mk (st := s_law_two) l12 c12 k12
  have F13 := fun_mk (st := s_law_whole) l13 c13 k13
  have F14 := fun_mk (st := s_law_leaf) l14 c14 k14
  have F15 := fun_mk (st := s_law_turn) l15 c15 k15
  have F16 := fun_mk (st := s_law_bars) l16 c16 k16
  have F17 := fun_mk (st := s_law_copy) l17 c17 k17
  have F18 := fun_mk (st := s_law_leaf_drawn) l18 c18 k18
  have F19 := fun_mk (st := s_law_drawn) l19 c19 k19
  have F20 := fun_mk (st := s_law_four) l20 c20 k20
  have F21 := fun_mk (st := s_law_deep) l21 c21 k21
  have F22 := fun_mk (st := s_law_deep_right) l22 c22 k22
  have F23 := fun_mk (st := s_law_ware) l23 c23 k23
  have F24 := fun_mk (st := s_law) l24 c24 k24
  have GG : Glob K mg (fun g => match g with | .sides_of => f0 | .lies_of => f1 | .ways_of => f2 | .side_of_box => f3 | .chain_total => f4 | .leaf_right => f5 | .turn_right => f6 | .pair_right => f7 | .way_right => f8 | .bars_all => f9 | .law_cell => f10 | .law_sides => f11 | .law_two => f12 | .law_whole => f13 | .law_leaf => f14 | .law_turn => f15 | .law_bars => f16 | .law_copy => f17 | .law_leaf_drawn => f18 | .law_drawn => f19 | .law_four => f20 | .law_deep => f21 | .law_deep_right => f22 | .law_ware => f23 | .law => f24) (fun g => match g with | .sides_of => PySem.W.fnOf "sides_of" "sides_of" (defArgs s_sides_of) (defBody s_sides_of) (defScope s_sides_of) .none kV0 dc0 pm0 an0 cd0 ct0 | .lies_of => PySem.W.fnOf "lies_of" "lies_of" (defArgs s_lies_of) (defBody s_lies_of) (defScope s_lies_of) .none kV1 dc1 pm1 an1 cd1 ct1 | .ways_of => PySem.W.fnOf "ways_of" "ways_of" (defArgs s_ways_of) (defBody s_ways_of) (defScope s_ways_of) .none kV2 dc2 pm2 an2 cd2 ct2 | .side_of_box => PySem.W.fnOf "side_of_box" "side_of_box" (defArgs s_side_of_box) (defBody s_side_of_box) (defScope s_side_of_box) .none kV3 dc3 pm3 an3 cd3 ct3 | .chain_total => PySem.W.fnOf "chain_total" "chain_total" (defArgs s_chain_total) (defBody s_chain_total) (defScope s_chain_total) .none kV4 dc4 pm4 an4 cd4 ct4 | .leaf_right => PySem.W.fnOf "leaf_right" "leaf_right" (defArgs s_leaf_right) (defBody s_leaf_right) (defScope s_leaf_right) .none kV5 dc5 pm5 an5 cd5 ct5 | .turn_right => PySem.W.fnOf "turn_right" "turn_right" (defArgs s_turn_right) (defBody s_turn_right) (defScope s_turn_right) .none kV6 dc6 pm6 an6 cd6 ct6 | .pair_right => PySem.W.fnOf "pair_right" "pair_right" (defArgs s_pair_right) (defBody s_pair_right) (defScope s_pair_right) .none kV7 dc7 pm7 an7 cd7 ct7 | .way_right => PySem.W.fnOf "way_right" "way_right" (defArgs s_way_right) (defBody s_way_right) (defScope s_way_right) .none kV8 dc8 pm8 an8 cd8 ct8 | .bars_all => PySem.W.fnOf "bars_all" "bars_all" (defArgs s_bars_all) (defBody s_bars_all) (defScope s_bars_all) .none kV9 dc9 pm9 an9 cd9 ct9 | .law_cell => PySem.W.fnOf "_law_cell" "_law_cell" (defArgs s_law_cell) (defBody s_law_cell) (defScope s_law_cell) .none kV10 dc10 pm10 an10 cd10 ct10 | .law_sides => PySem.W.fnOf "_law_sides" "_law_sides" (defArgs s_law_sides) (defBody s_law_sides) (defScope s_law_sides) .none kV11 dc11 pm11 an11 cd11 ct11 | .law_two => PySem.W.fnOf "_law_two" "_law_two" (defArgs s_law_two) (defBody s_law_two) (defScope s_law_two) .none kV12 dc12 pm12 an12 cd12 ct12 | .law_whole => PySem.W.fnOf "_law_whole" "_law_whole" (defArgs s_law_whole) (defBody s_law_whole) (defScope s_law_whole) .none kV13 dc13 pm13 an13 cd13 ct13 | .law_leaf => PySem.W.fnOf "_law_leaf" "_law_leaf" (defArgs s_law_leaf) (defBody s_law_leaf) (defScope s_law_leaf) .none kV14 dc14 pm14 an14 cd14 ct14 | .law_turn => PySem.W.fnOf "_law_turn" "_law_turn" (defArgs s_law_turn) (defBody s_law_turn) (defScope s_law_turn) .none kV15 dc15 pm15 an15 cd15 ct15 | .law_bars => PySem.W.fnOf "_law_bars" "_law_bars" (defArgs s_law_bars) (defBody s_law_bars) (defScope s_law_bars) .none kV16 dc16 pm16 an16 cd16 ct16 | .law_copy => PySem.W.fnOf "_law_copy" "_law_copy" (defArgs s_law_copy) (defBody s_law_copy) (defScope s_law_copy) .none kV17 dc17 pm17 an17 cd17 ct17 | .law_leaf_drawn => PySem.W.fnOf "_law_leaf_drawn" "_law_leaf_drawn" (defArgs s_law_leaf_drawn) (defBody s_law_leaf_drawn) (defScope s_law_leaf_drawn) .none kV18 dc18 pm18 an18 cd18 ct18 | .law_drawn => PySem.W.fnOf "_law_drawn" "_law_drawn" (defArgs s_law_drawn) (defBody s_law_drawn) (defScope s_law_drawn) .none kV19 dc19 pm19 an19 cd19 ct19 | .law_four => PySem.W.fnOf "_law_four" "_law_four" (defArgs s_law_four) (defBody s_law_four) (defScope s_law_four) .none kV20 dc20 pm20 an20 cd20 ct20 | .law_deep => PySem.W.fnOf "_law_deep" "_law_deep" (defArgs s_law_deep) (defBody s_law_deep) (defScope s_law_deep) .none kV21 dc21 pm21 an21 cd21 ct21 | .law_deep_right => PySem.W.fnOf "_law_deep_right" "_law_deep_right" (defArgs s_law_deep_right) (defBody s_law_deep_right) (defScope s_law_deep_right) .none kV22 dc22 pm22 an22 cd22 ct22 | .law_ware => PySem.W.fnOf "_law_ware" "_law_ware" (defArgs s_law_ware) (defBody s_law_ware) (defScope s_law_ware) .none kV23 dc23 pm23 an23 cd23 ct23 | .law => PySem.W.fnOf "law" "law" (defArgs s_law) (defBody s_law) (defScope s_law) .none kV24 dc24 pm24 an24 cd24 ct24) :=
    { m_sides_of := PySem.W.mg_of X G a0, k_sides_of := k0, f_sides_of := F0, b_sides_of := F0.binds (ps := ["ware", "lie"]) fun _ _ _ _ _ _ us hl => match us, hl with | [_, _], _ => rfl,
      m_lies_of := PySem.W.mg_of X G a1, k_lies_of := k1, f_lies_of := F1, b_lies_of := F1.binds (ps := ["ware"]) fun _ _ _ _ _ _ us hl => match us, hl with | [_], _ => rfl,
      m_ways_of := PySem.W.mg_of X G a2, k_ways_of := k2, f_ways_of := F2, b_ways_of := F2.binds (ps := ["i", "j"]) fun _ _ _ _ _ _ us hl => match us, hl with | [_, _], _ => rfl,
      m_side_of_box := PySem.W.mg_of X G a3, k_side_of_box := k3, f_side_of_box := F3, b_side_of_box := F3.binds (ps := ["box", "word"]) fun _ _ _ _ _ _ us hl => match us, hl with | [_, _], _ => rfl,
      m_chain_total := PySem.W.mg_of X G a4, k_chain_total := k4, f_chain_total := F4, b_chain_total := F4.binds (ps := ["wares", "lies", "word", "numbers"]) fun _ _ _ _ _ _ us hl => match us, hl with | [_, _, _, _], _ => rfl,
      m_leaf_right := PySem.W.mg_of X G a5, k_leaf_right := k5, f_leaf_right := F5, b_leaf_right := F5.binds (ps := ["box", "wares", "leaf", "lies", "told"]) fun _ _ _ _ _ _ us hl => match us, hl with | [_, _, _, _, _], _ => rfl,
      m_turn_right := PySem.W.mg_of X G a6, k_turn_right := k6, f_turn_right := F6, b_turn_right := F6.binds (ps := ["box", "wares", "paper", "lies", "told"]) fun _ _ _ _ _ _ us hl => match us, hl with | [_, _, _, _, _], _ => rfl,
      m_pair_right := PySem.W.mg_of X G a7, k_pair_right := k7, f_pair_right := F7, b_pair_right := F7.binds (ps := ["box", "wares", "paper", "lies", "told"]) fun _ _ _ _ _ _ us hl => match us, hl with | [_, _, _, _, _], _ => rfl,
      m_way_right := PySem.W.mg_of X G a8, k_way_right := k8, f_way_right := F8, b_way_right := F8.binds (ps := ["box", "wares", "paper", "lies", "told"]) fun _ _ _ _ _ _ us hl => match us, hl with | [_, _, _, _, _], _ => rfl,
      m_bars_all := PySem.W.mg_of X G a9, k_bars_all := k9, f_bars_all := F9, b_bars_all := F9.binds (ps := ["box", "wares", "paper"]) fun _ _ _ _ _ _ us hl => match us, hl with | [_, _, _], _ => rfl,
      m_law_cell := PySem.W.mg_of X G a10, k_law_cell := k10, f_law_cell := F10, b_law_cell := F10.binds (ps := ["script", "k"]) fun _ _ _ _ _ _ us hl => match us, hl with | [_, _], _ => rfl,
      m_law_sides := PySem.W.mg_of X G a11, k_law_sides := k11, f_law_sides := F11, b_law_sides := F11.binds (ps := ["ware", "lie"]) fun _ _ _ _ _ _ us hl => match us, hl with | [_, _], _ => rfl,
      m_law_two := PySem.W.mg_of X G a12, k_law_two := k12, f_law_two := F12, b_law_two := F12.binds (ps := ["ware"]) fun _ _ _ _ _ _ us hl => match us, hl with | [_], _ => rfl,
      m_law_whole := PySem.W.mg_of X G a13, k_law_whole := k13, f_law_whole := F13, b_law_whole := F13.binds (ps := ["found"]) fun _ _ _ _ _ _ us hl => match us, hl with | [_], _ => rfl,
      m_law_leaf := PySem.W.mg_of X G a14, k_law_leaf := k14, f_law_leaf := F14, b_law_leaf := F14.binds (ps := ["box", "wares", "leaf", "lies", "told"]) fun _ _ _ _ _ _ us hl => match us, hl with | [_, _, _, _, _], _ => rfl,
      m_law_turn := PySem.W.mg_of X G a15, k_law_turn := k15, f_law_turn := F15, b_law_turn := F15.binds (ps := ["box", "wares", "paper", "lies", "told", "room"]) fun _ _ _ _ _ _ us hl => match us, hl with | [_, _, _, _, _, _], _ => rfl,
      m_law_bars := PySem.W.mg_of X G a16, k_law_bars := k16, f_law_bars := F16, b_law_bars := F16.binds (ps := ["box", "wares", "paper", "lies", "told", "room"]) fun _ _ _ _ _ _ us hl => match us, hl with | [_, _, _, _, _, _], _ => rfl,
      m_law_copy := PySem.W.mg_of X G a17, k_law_copy := k17, f_law_copy := F17, b_law_copy := F17.binds (ps := ["paper"]) fun _ _ _ _ _ _ us hl => match us, hl with | [_], _ => rfl,
      m_law_leaf_drawn := PySem.W.mg_of X G a18, k_law_leaf_drawn := k18, f_law_leaf_drawn := F18, b_law_leaf_drawn := F18.binds (ps := ["cell", "told", "many", "honest"]) fun _ _ _ _ _ _ us hl => match us, hl with | [_, _, _, _], _ => rfl,
      m_law_drawn := PySem.W.mg_of X G a19, k_law_drawn := k19, f_law_drawn := F19, b_law_drawn := F19.binds (ps := ["script", "at", "room", "many", "told", "honest"]) fun _ _ _ _ _ _ us hl => match us, hl with | [_, _, _, _, _, _], _ => rfl,
      m_law_four := PySem.W.mg_of X G a20, k_law_four := k20, f_law_four := F20, b_law_four := F20.binds (ps := ["i", "j"]) fun _ _ _ _ _ _ us hl => match us, hl with | [_, _], _ => rfl,
      m_law_deep := PySem.W.mg_of X G a21, k_law_deep := k21, f_law_deep := F21, b_law_deep := F21.binds (ps := ["cell", "many", "bad"]) fun _ _ _ _ _ _ us hl => match us, hl with | [_, _, _], _ => rfl,
      m_law_deep_right := PySem.W.mg_of X G a22, k_law_deep_right := k22, f_law_deep_right := F22, b_law_deep_right := F22.binds (ps := ["script", "unit"]) fun _ _ _ _ _ _ us hl => match us, hl with | [_, _], _ => rfl,
      m_law_ware := PySem.W.mg_of X G a23, k_law_ware := k23, f_law_ware := F23, b_law_ware := F23.binds (ps := ["cell", "unit", "turns"]) fun _ _ _ _ _ _ us hl => match us, hl with | [_, _, _], _ => rfl,
      m_law := PySem.W.mg_of X G a24, k_law := k24, f_law := F24, b_law := F24.binds (ps := ["script"]) fun _ _ _ _ _ _ us hl => match us, hl with | [_], _ => rfl,
      z_len := PySem.W.mg_none_of X G z_len,
      z_zip := PySem.W.mg_none_of X G z_zip,
      z_dict := PySem.W.mg_none_of X G z_dict,
      z_int := PySem.W.mg_none_of X G z_int,
      z_isinstance := PySem.W.mg_none_of X G z_isinstance,
      z_bool := PySem.W.mg_none_of X G z_bool,
      z_list := PySem.W.mg_none_of X G z_list,
      z_tuple := PySem.W.mg_none_of X G z_tuple,
      z_range := PySem.W.mg_none_of X G z_range,
      z_min := PySem.W.mg_none_of X G z_min,
      z_max := PySem.W.mg_none_of X G z_max }
  exact ⟨PySem.W.fnOf "law" "law" (defArgs s_law) (defBody s_law) (defScope s_law) .none kV24 dc24 pm24 an24 cd24 ct24, fun s v => .of_eq rfl, fun base _ _ => law_of (all_ok (P := l.prog) (w := w) (base := base) GG 200 .law) pure⟩
end L2.Lw

namespace L2.Lw
open PySem L2.Pd
/-! ### kinds -/
abbrev Wr := Int × Int × Bool
def wD (w : Wr) : D := .tup [.int w.1, .int w.2.1, .bl w.2.2]
def two (w : Wr) : Bool := w.2.2 && !(w.1 == w.2.1)
def sides (w : Wr) (lie : Bool) : Int × Int := if lie then (w.2.1, w.1) else (w.1, w.2.1)
def pD (p : Int × Int) : D := .tup [.int p.1, .int p.2]
def wS (up : Bool) : Str := if up then "up" else "across"
def sd (p : Int × Int) (up : Bool) : Int := if up then p.2 else p.1
variable {n : Nat}
theorem wS_ok (up : Bool) : PyData.strOk (wS up) = true := by cases up <;> decide +kernel
theorem up_ok : PyData.strOk "up" = true := by decide +kernel
theorem wS_up (up : Bool) : (wS up == ("up" : Str)) = up := by cases up <;> decide +kernel
@[simp] theorem dEq_up (up : Bool) : dEq (.str (wS up)) (.str "up") = .ok (.bl up) := dEq_str (by rw [wS_ok, up_ok]; rfl) (wS_up up)
theorem sides_of_run (w : Wr) (lie : Bool) (h : lie = true → w.2.2 = true) : run (n + 1) .sides_of [wD w, .bl lie] = .ok (pD (sides w lie)) := by
  rw [r_sides_of]
  cases lie <;> simp [b_sides_of, wD, pD, sides] at h ⊢
  simp [h]
theorem lies_of_run (w : Wr) : run (n + 1) .lies_of [wD w] = .ok (.lst (if two w then [.bl false, .bl true] else [.bl false])) := by
  rw [r_lies_of]
  simp [b_lies_of, wD, two]
  split <;> simp_all
theorem side_of_box_run (p : Int × Int) (up : Bool) : run (n + 1) .side_of_box [pD p, .str (wS up)] = .ok (.int (sd p up)) := by
  rw [r_side_of_box]
  cases up <;> simp [b_side_of_box, pD, sd]
/-! ### a way's sum -/
abbrev Lie := List (Int × Bool)
def lieK (l : Lie) (k : Int) : Bool := (lkp l k).getD false
def Good (ws : List Wr) (l : Lie) : Prop := ∀ k, lieK l k = true → (at0 ws k).2.2 = true
def inW (ws : List Wr) (k : Int) : Bool := decide (0 ≤ k) && decide (k < ws.length)
def sumK (ws : List Wr) (l : Lie) (up : Bool) (ns : List Int) : Int := (ns.map fun k => sd (sides (at0 ws k) (lieK l k)) up).sum
theorem chain_loop (ws : List Wr) (l : Lie) (up : Bool) (nsD : D) (g : Good ws l) : ∀ (ns : List Int) (t : Int) (a b : Option D), (∀ k ∈ ns, inW ws k = true) →
    ∃ a' b', forL (gN 5) (b_chain_total_1 (run (n + 1))) (ns.map D.int) [some (.lst (ws.map wD)), some (lD l), some (.str (wS up)), some nsD, some (.int t), a, b] = .nx [some (.lst (ws.map wD)), some (lD l), some (.str (wS up)), some nsD, some (.int (t + sumK ws l up ns)), a', b']
  | [], t, a, b, _ => ⟨a, b, by simp [sumK]⟩
  | k :: r, t, a, b, h => by
    have hk := h k (List.mem_cons_self ..)
    simp only [inW, Bool.and_eq_true, decide_eq_true_eq] at hk
    obtain ⟨a', b', e⟩ := chain_loop ws l up nsD g r (t + sd (sides (at0 ws k) (lieK l k)) up) (some (.int k)) (some (pD (sides (at0 ws k) (lieK l k)))) fun x hx => h x (List.mem_cons_of_mem _ hx)
    refine ⟨a', b', ?_⟩
    have e0 := oGet_lD l k false
    simp only [List.map_cons, forL_cons]
    simp [u_chain_total_1, dIx_lm hk.1 hk.2, e0, show (lkp l k).getD false = lieK l k from rfl, sides_of_run _ _ (g k), side_of_box_run]
    simp only [sumK, List.map_cons, List.sum_cons] at e ⊢
    rw [e, Int.add_assoc]
theorem chain_total_run (ws : List Wr) (l : Lie) (up : Bool) (ns : List Int) (g : Good ws l) (h : ∀ k ∈ ns, inW ws k = true) :
    run (n + 2) .chain_total [.lst (ws.map wD), lD l, .str (wS up), .lst (ns.map D.int)] = .ok (.int (sumK ws l up ns)) := by
  rw [r_chain_total]
  obtain ⟨a, b, e⟩ := chain_loop (n := n) ws l up (.lst (ns.map D.int)) g ns 0 none none h
  simp [b_chain_total, e]
/-! ### a chain -/
abbrev Told := List (Bool × Int × Int)
def tD (t : Bool × Int × Int) : D := .tup [.str (wS t.1), .int t.2.1, .int t.2.2]
theorem wS_eq (a b : Bool) : (wS a == wS b) = (a == b) := by cases a <;> cases b <;> decide +kernel
theorem tD_eqv (a b : Bool × Int × Int) : (tD a).eqv (tD b) = (a == b) := by
  obtain ⟨u, i, j⟩ := a
  obtain ⟨v, i', j'⟩ := b
  simp only [tD, eqv_tup, eqvs_cons, eqvs_nil, eqv_str, eqv_int, wS_eq, Bool.and_true]
  rfl
def hasT (told : Told) (up : Bool) (a b : Int) : Bool := told.contains (up, a, b)
theorem dIn_told (neg : Bool) (told : Told) (up : Bool) (a b : Int) : dIn neg (.tup [.str (wS up), .int a, .int b]) (.lst (told.map tD)) = .ok (.bl (neg.xor (hasT told up a b))) :=
  dIn_map (f := tD) neg tD_eqv (fun _ => rfl) (fun a => by simp [tD, lay_tup, lay_str, wS_ok]) (fun a => Nat.le_trans (dep_tup (k := 0) (by simp [tD])) (by decide)) told (up, a, b)
def okK (ws : List Wr) (l : Lie) (k : Int) : Bool := inW ws k && (!two (at0 ws k) || (lkp l k).isSome)
def linkd (told : Told) (up : Bool) : List Int → Bool
  | a :: b :: r => hasT told up a b && linkd told up (b :: r)
  | _ => true
def leafS (box : Int × Int) (ws : List Wr) (up : Bool) (ns : List Int) (l : Lie) (told : Told) : Bool := !ns.isEmpty && ns.all (okK ws l) && linkd told up ns && decide (sd box up < sumK ws l up ns)
def leafD (up : Bool) (ns : List Int) : D := .tup [.str "chain", .str (wS up), .lst (ns.map D.int)]
theorem leaf_loop1 (x0 : Option D) (ws : List Wr) (l : Lie) (x2 x4 x5 x6 : Option D) : ∀ (ns : List Int) (a b c : Option D),
    (ns.all (okK ws l) = true → ∃ a', forL (gN 7) (b_leaf_right_1 (run (n + 1))) (ns.map D.int) [x0, some (.lst (ws.map wD)), x2, some (lD l), x4, x5, x6, a, b, c] = .nx [x0, some (.lst (ws.map wD)), x2, some (lD l), x4, x5, x6, a', b, c]) ∧
    (ns.all (okK ws l) = false → forL (gN 7) (b_leaf_right_1 (run (n + 1))) (ns.map D.int) [x0, some (.lst (ws.map wD)), x2, some (lD l), x4, x5, x6, a, b, c] = .ret (.bl false))
  | [], a, b, c => ⟨fun _ => ⟨a, rfl⟩, fun h => by cases h⟩
  | k :: r, a, b, c => by
    have ih := leaf_loop1 x0 ws l x2 x4 x5 x6 r (some (.int k)) b c
    have hc : ∀ R : Out, forL (gN 7) (b_leaf_right_1 (run (n + 1))) ((k :: r).map D.int) [x0, some (.lst (ws.map wD)), x2, some (lD l), x4, x5, x6, a, b, c] = if okK ws l k = true then forL (gN 7) (b_leaf_right_1 (run (n + 1))) (r.map D.int) [x0, some (.lst (ws.map wD)), x2, some (lD l), x4, x5, x6, some (.int k), b, c] else .ret (.bl false) := by
      intro _
      simp only [List.map_cons, forL_cons]
      by_cases h0 : 0 ≤ k
      · by_cases h1 : k < ws.length
        · have e := lies_of_run (n := n) (at0 ws k)
          simp [u_leaf_right_1, eCh_eq, dIx_lm h0 h1, h0, h1, dIn_lD, okK, inW, e]
          cases two (at0 ws k) <;> cases lkp l k <;> simp
        · simp [u_leaf_right_1, eCh_eq, h0, h1, okK, inW]
      · simp [u_leaf_right_1, eCh_eq, h0, okK, inW]
    rw [hc .bad]
    cases hk : okK ws l k with
    | true => simpa [hk] using ih
    | false => simp [hk]
theorem leaf_loop2 (told : Told) (up : Bool) (x0 x1 x2 x3 x6 x7 : Option D) : ∀ (r : List Int) (k : Int) (b c : Option D),
    (linkd told up (k :: r) = true → ∃ b' c', forL (gT 2 (gsCons (gN 8) (gsCons (gN 9) gsNil))) (b_leaf_right_2 (run (n + 1))) (((k :: r).zip r).map fun p => .tup [.int p.1, .int p.2]) [x0, x1, x2, x3, some (.lst (told.map tD)), some (.str (wS up)), x6, x7, b, c] = .nx [x0, x1, x2, x3, some (.lst (told.map tD)), some (.str (wS up)), x6, x7, b', c']) ∧
    (linkd told up (k :: r) = false → forL (gT 2 (gsCons (gN 8) (gsCons (gN 9) gsNil))) (b_leaf_right_2 (run (n + 1))) (((k :: r).zip r).map fun p => .tup [.int p.1, .int p.2]) [x0, x1, x2, x3, some (.lst (told.map tD)), some (.str (wS up)), x6, x7, b, c] = .ret (.bl false))
  | [], k, b, c => ⟨fun _ => ⟨b, c, rfl⟩, fun h => by cases h⟩
  | j :: r, k, b, c => by
    have ih := leaf_loop2 told up x0 x1 x2 x3 x6 x7 r j (some (.int k)) (some (.int j))
    simp only [List.zip_cons_cons, List.map_cons, forL_cons]
    simp only [linkd]
    cases hk : hasT told up k j with
    | true =>
      simp [u_leaf_right_2, dIn_told, hk]
      simpa using ih
    | false => simp [u_leaf_right_2, dIn_told, hk]
theorem leaf_right_run (box : Int × Int) (ws : List Wr) (up : Bool) (ns : List Int) (l : Lie) (told : Told) (g : Good ws l) :
    run (n + 3) .leaf_right [pD box, .lst (ws.map wD), leafD up ns, lD l, .lst (told.map tD)] = .ok (.bl (leafS box ws up ns l told)) := by
  rw [r_leaf_right]
  cases ns with
  | nil => simp [b_leaf_right, leafD, leafS]
  | cons k r =>
    have h1 := leaf_loop1 (n := n + 1) (some (pD box)) ws l (some (leafD up (k :: r))) (some (.lst (told.map tD))) (some (.str (wS up))) (some (.lst ((k :: r).map D.int))) (k :: r) none none none
    have hz : zipD ((k :: r).map D.int) (cutD ((k :: r).map D.int) (some 1) none) = ((k :: r).zip r).map fun p => .tup [.int p.1, .int p.2] := by
      rw [show (some (1 : Int)) = some ((1 : Nat) : Int) from rfl, cut_from]
      exact zipD_map _ _ _ _
    have hl : ((((k :: r).map D.int).length : Nat) : Int) ≠ 0 := by simp; omega
    have hne : (k :: r).map D.int ≠ [] := by simp
    simp only [leafD] at h1 ⊢
    generalize hq : (k :: r).map D.int = q at *
    cases ha : (k :: r).all (okK ws l) with
    | false => simp [b_leaf_right, leafS, hl, h1.2 ha, ha]
    | true =>
      obtain ⟨a', e1⟩ := h1.1 ha
      have h2 := leaf_loop2 (n := n + 1) told up (some (pD box)) (some (.lst (ws.map wD))) (some (.tup [.str "chain", .str (wS up), .lst q])) (some (lD l)) (some (.lst q)) a' r k none none
      cases hb : linkd told up (k :: r) with
      | false => simp [b_leaf_right, leafS, hl, e1, ha, hz, h2.2 hb, hb]
      | true =>
        obtain ⟨b', c', e2⟩ := h2.1 hb
        have e3 := chain_total_run (n := n) ws l up (k :: r) g fun x hx => by
          have := List.all_eq_true.mp ha x hx
          simp only [okK, Bool.and_eq_true] at this
          exact this.1
        rw [hq] at e3
        simp [b_leaf_right, leafS, hl, e1, ha, hz, e2, hb, e3, side_of_box_run, hne]
/-! ### papers -/
inductive Pa where
  | chain (up : Bool) (ns : List Int) | turn (k : Int) (a b : Pa) | pair (i j : Int) (p q r s : Pa)
def paD : Pa → D
  | .chain up ns => leafD up ns
  | .turn k a b => .tup [.str "turn", .int k, paD a, paD b]
  | .pair i j p q r s => .tup [.str "pair", .int i, .int j, paD p, paD q, paD r, paD s]
def dpt : Pa → Nat
  | .chain _ _ => 0
  | .turn _ a b => max (dpt a) (dpt b) + 1
  | .pair _ _ p q r s => max (max (dpt p) (dpt q)) (max (dpt r) (dpt s)) + 1
def barsS (box : Int × Int) (ws : List Wr) : Pa → Lie → Told → Bool
  | .chain up ns, l, told => leafS box ws up ns l told
  | .turn k a b, l, told => inW ws k && !(lkp l k).isSome && two (at0 ws k) && barsS box ws a (l ++ [(k, false)]) told && barsS box ws b (l ++ [(k, true)]) told
  | .pair i j p q r s, l, told => !(i == j) && inW ws i && inW ws j && barsS box ws p l (told ++ [(false, i, j)]) && barsS box ws q l (told ++ [(false, j, i)]) && barsS box ws r l (told ++ [(true, i, j)]) && barsS box ws s l (told ++ [(true, j, i)])
theorem snocA (told : Told) (i j : Int) : told.map tD ++ [.tup [.str "across", .int i, .int j]] = (told ++ [(false, i, j)]).map tD := by simp [tD, wS]
theorem snocU (told : Told) (i j : Int) : told.map tD ++ [.tup [.str "up", .int i, .int j]] = (told ++ [(true, i, j)]).map tD := by simp [tD, wS]
theorem ways_of_run (i j : Int) : run (n + 1) .ways_of [.int i, .int j] = .ok (.lst [.tup [.str "across", .int i, .int j], .tup [.str "across", .int j, .int i], .tup [.str "up", .int i, .int j], .tup [.str "up", .int j, .int i]]) := by
  rw [r_ways_of]
  simp [b_ways_of]
theorem good_snoc {ws : List Wr} {l : Lie} {k : Int} (b : Bool) (g : Good ws l) (h : two (at0 ws k) = true) : Good ws (l ++ [(k, b)]) := by
  intro j hj
  unfold lieK at hj
  rw [lkp_snoc] at hj
  cases e : lkp l j with
  | some c =>
    rw [e] at hj
    exact g j (by unfold lieK; rw [e]; exact hj)
  | none =>
    rw [e] at hj
    by_cases hk : k = j
    · subst hk
      unfold two at h
      exact (Bool.and_eq_true_iff.mp h).1
    · rw [if_neg hk] at hj
      cases hj
theorem s_cc : (("chain" : Str) == ("chain" : Str)) = true := by decide +kernel
theorem s_tc : (("turn" : Str) == ("chain" : Str)) = false := by decide +kernel
theorem s_pc : (("pair" : Str) == ("chain" : Str)) = false := by decide +kernel
theorem s_tt : (("turn" : Str) == ("turn" : Str)) = true := by decide +kernel
theorem s_pt : (("pair" : Str) == ("turn" : Str)) = false := by decide +kernel
theorem s_pp : (("pair" : Str) == ("pair" : Str)) = true := by decide +kernel
@[simp] theorem q_cc : dEq (.str "chain") (.str "chain") = .ok (.bl true) := dEq_str (by decide +kernel) s_cc
@[simp] theorem q_tc : dEq (.str "turn") (.str "chain") = .ok (.bl false) := dEq_str (by decide +kernel) s_tc
@[simp] theorem q_pc : dEq (.str "pair") (.str "chain") = .ok (.bl false) := dEq_str (by decide +kernel) s_pc
@[simp] theorem q_tt : dEq (.str "turn") (.str "turn") = .ok (.bl true) := dEq_str (by decide +kernel) s_tt
@[simp] theorem q_pt : dEq (.str "pair") (.str "turn") = .ok (.bl false) := dEq_str (by decide +kernel) s_pt
@[simp] theorem q_npp : dNe (.str "pair") (.str "pair") = .ok (.bl false) := dNe_str (by decide +kernel) s_pp
theorem way_right_run (box : Int × Int) (ws : List Wr) : ∀ (p : Pa) (n : Nat) (l : Lie) (told : Told), Good ws l → 2 * dpt p + 4 ≤ n → l.length + dpt p ≤ 1000000 → told.length + dpt p ≤ 1000000 →
    run n .way_right [pD box, .lst (ws.map wD), paD p, lD l, .lst (told.map tD)] = .ok (.bl (barsS box ws p l told))
  | .chain up ns, n, l, told, g, hn, h1, h2 => by
    obtain ⟨m, rfl⟩ : ∃ m, n = m + 4 := ⟨n - 4, by omega⟩
    rw [r_way_right]
    have e := leaf_right_run (n := m) box ws up ns l told g
    simp only [leafD] at e
    simp [b_way_right, paD, leafD, e, barsS]
  | .turn k a b, n, l, told, g, hn, h1, h2 => by
    simp only [dpt] at hn h1 h2
    obtain ⟨m, rfl⟩ : ∃ m, n = m + 2 := ⟨n - 2, by omega⟩
    rw [r_way_right]
    simp [b_way_right, paD]
    rw [r_turn_right]
    by_cases h0 : 0 ≤ k
    · by_cases h3 : k < ws.length
      · cases hl : lkp l k with
        | some c => simp [b_turn_right, eCh_eq, barsS, inW, h0, h3, dIn_lD, hl]
        | none =>
          obtain ⟨m', rfl⟩ : ∃ m', m = m' + 1 := ⟨m - 1, by omega⟩
          have e := lies_of_run (n := m') (at0 ws k)
          cases ht : two (at0 ws k) with
          | false => simp [b_turn_right, eCh_eq, barsS, inW, h0, h3, dIn_lD, hl, dIx_lm h0 h3, e, ht]
          | true =>
            have ia := way_right_run box ws a (m' + 1) (l ++ [(k, false)]) told (good_snoc false g ht) (by omega) (by rw [List.length_append]; simp; omega) (by omega)
            have ib := way_right_run box ws b (m' + 1) (l ++ [(k, true)]) told (good_snoc true g ht) (by omega) (by rw [List.length_append]; simp; omega) (by omega)
            have su : ∀ (c : Bool), sSetIx 7 (eVar 5) (eVar 6) [some (pD box), some (.lst (ws.map wD)), some (.tup [.str "turn", .int k, paD a, paD b]), some (lD l), some (.lst (told.map tD)), some (.int k), some (.bl c), some (lD l)] = .nx [some (pD box), some (.lst (ws.map wD)), some (.tup [.str "turn", .int k, paD a, paD b]), some (lD l), some (.lst (told.map tD)), some (.int k), some (.bl c), some (lD (l ++ [(k, c)]))] := by
              intro c
              rw [sSetIx_dic (ks := l.map (·.1)) (vs := l.map fun p => .bl p.2) (n := k) (v := .bl c) rfl rfl rfl (by rw [List.length_map]; omega), dPut_lD hl]
              rfl
            simp [b_turn_right, u_turn_right_1, eCh_eq, barsS, inW, h0, h3, dIn_lD, hl, dIx_lm h0 h3, e, ht, dDict_lD, su, ia, ib]
      · simp [b_turn_right, eCh_eq, barsS, inW, h0, h3]
    · simp [b_turn_right, eCh_eq, barsS, inW, h0]
  | .pair i j p q r s, n, l, told, g, hn, h1, h2 => by
    simp only [dpt] at hn h1 h2
    obtain ⟨m, rfl⟩ : ∃ m, n = m + 2 := ⟨n - 2, by omega⟩
    rw [r_way_right]
    simp [b_way_right, paD]
    rw [r_pair_right]
    by_cases hij : i = j
    · simp [b_pair_right, barsS, hij]
    · by_cases h0 : 0 ≤ i
      · by_cases h3 : i < ws.length
        · by_cases h4 : 0 ≤ j
          · by_cases h5 : j < ws.length
            · obtain ⟨m', rfl⟩ : ∃ m', m = m' + 1 := ⟨m - 1, by omega⟩
              have ia := way_right_run box ws p (m' + 1) l (told ++ [(false, i, j)]) g (by omega) (by omega) (by rw [List.length_append]; simp; omega)
              have ib := way_right_run box ws q (m' + 1) l (told ++ [(false, j, i)]) g (by omega) (by omega) (by rw [List.length_append]; simp; omega)
              have ic := way_right_run box ws r (m' + 1) l (told ++ [(true, i, j)]) g (by omega) (by omega) (by rw [List.length_append]; simp; omega)
              have id := way_right_run box ws s (m' + 1) l (told ++ [(true, j, i)]) g (by omega) (by omega) (by rw [List.length_append]; simp; omega)
              have ad : ∀ x : D, dAdd (.lst (told.map tD)) (.lst [x]) = .ok (.lst (told.map tD ++ [x])) := fun x => dAdd_lst (by simp; omega)
              simp [tD, wS] at ia ib ic id
              generalize hb : barsS box ws (.pair i j p q r s) l told = res
              simp only [barsS] at hb
              generalize barsS box ws p l _ = x1 at ia hb
              generalize barsS box ws q l _ = x2 at ib hb
              generalize barsS box ws r l _ = x3 at ic hb
              generalize barsS box ws s l _ = x4 at id hb
              simp [inW, hij, h0, h3, h4, h5] at hb
              subst hb
              cases x1 <;> cases x2 <;> cases x3 <;> cases x4 <;> simp [b_pair_right, u_pair_right_1, eCh_eq, hij, h0, h3, h4, h5, ways_of_run, ad, ia, ib, ic, id]
            · simp [b_pair_right, eCh_eq, barsS, inW, hij, h0, h3, h4, h5]
          · simp [b_pair_right, eCh_eq, barsS, inW, hij, h0, h3, h4]
        · simp [b_pair_right, eCh_eq, barsS, inW, hij, h0, h3]
      · simp [b_pair_right, eCh_eq, barsS, inW, hij, h0]
theorem bars_all_run (box : Int × Int) (ws : List Wr) (p : Pa) (n : Nat) (hn : 2 * dpt p + 5 ≤ n) (h : dpt p ≤ 1000000) : run n .bars_all [pD box, .lst (ws.map wD), paD p] = .ok (.bl (barsS box ws p [] [])) := by
  obtain ⟨m, rfl⟩ : ∃ m, n = m + 1 := ⟨n - 1, by omega⟩
  rw [r_bars_all]
  have e := way_right_run box ws p m [] [] (fun k hk => by cases hk) (by omega) (by simpa using h) (by simpa using h)
  simp only [lD, List.map_nil] at e
  simp [b_bars_all, e]
end L2.Lw

namespace L2.Lw
open PySem L2.Pd
/-! ### the law's own reckoning -/
@[simp] theorem okB_pD (p : Int × Int) : okB (pD p) = true := rfl
@[simp] theorem okB_wD (p : Wr) : okB (wD p) = true := rfl
theorem law_sides_run (n : Nat) (w : Wr) (lie : Bool) : run (n + 1) .law_sides [wD w, .bl lie] = .ok (pD (sides w lie)) := by
  rw [r_law_sides]
  cases lie <;> simp [b_law_sides, wD, pD, sides]
theorem law_two_run (n : Nat) (w : Wr) : run (n + 1) .law_two [wD w] = .ok (.bl (two w)) := by
  rw [r_law_two]
  simp [b_law_two, wD, two]
theorem law_whole_run (n : Nat) (k : Int) : run (n + 1) .law_whole [.int k] = .ok (.bl true) := by
  rw [r_law_whole]
  simp [b_law_whole]
theorem axis_pD (p : Int × Int) (up : Bool) : dIx (pD p) (.int (if up then 1 else 0)) = .ok (.int (sd p up)) := by cases up <;> simp [pD, sd]
def oD : Option Int → D
  | none => .non
  | some k => .int k
def chkL (ws : List Wr) (l : Lie) (told : Told) (up : Bool) : Option Int → List Int → Bool
  | _, [] => true
  | o, k :: r => okK ws l k && (match o with
    | none => true
    | some j => hasT told up j k) && chkL ws l told up (some k) r
theorem chkL_some (ws : List Wr) (l : Lie) (told : Told) (up : Bool) : ∀ (r : List Int) (j : Int), chkL ws l told up (some j) r = (r.all (okK ws l) && linkd told up (j :: r))
  | [], j => rfl
  | k :: r, j => by
    simp only [chkL, chkL_some ws l told up r k, List.all_cons, linkd]
    cases okK ws l k <;> cases hasT told up j k <;> cases r.all (okK ws l) <;> simp
theorem chkL_none (ws : List Wr) (l : Lie) (told : Told) (up : Bool) (ns : List Int) : chkL ws l told up none ns = (ns.all (okK ws l) && linkd told up ns) := by
  cases ns with
  | nil => rfl
  | cons k r =>
    simp only [chkL, chkL_some, List.all_cons]
    cases okK ws l k <;> simp
theorem lawleaf_loop (n : Nat) (x0 : Option D) (ws : List Wr) (l : Lie) (told : Told) (up : Bool) (q : D) : ∀ (ns : List Int) (t : Int) (o : Option Int) (b : Option D),
    (chkL ws l told up o ns = true → ∃ a' b', forL (gN 8) (b_law_leaf_1 (run (n + 1))) (ns.map D.int) [x0, some (.lst (ws.map wD)), some (.tup [.str "chain", .str (wS up), q]), some (lD l), some (.lst (told.map tD)), some (.int (if up then 1 else 0)), some (.int t), some (oD o), b]
      = .nx [x0, some (.lst (ws.map wD)), some (.tup [.str "chain", .str (wS up), q]), some (lD l), some (.lst (told.map tD)), some (.int (if up then 1 else 0)), some (.int (t + sumK ws l up ns)), a', b']) ∧
    (chkL ws l told up o ns = false → forL (gN 8) (b_law_leaf_1 (run (n + 1))) (ns.map D.int) [x0, some (.lst (ws.map wD)), some (.tup [.str "chain", .str (wS up), q]), some (lD l), some (.lst (told.map tD)), some (.int (if up then 1 else 0)), some (.int t), some (oD o), b] = .ret (.bl false))
  | [], t, o, b => ⟨fun _ => ⟨some (oD o), b, by simp [sumK]⟩, fun h => by cases h⟩
  | k :: r, t, o, b => by
    have ih := lawleaf_loop n x0 ws l told up q r (t + sd (sides (at0 ws k) (lieK l k)) up) (some k) (some (.int k))
    have hs : sumK ws l up (k :: r) = sd (sides (at0 ws k) (lieK l k)) up + sumK ws l up r := by simp [sumK]
    have e0 := oGet_lD l k false
    simp only [List.map_cons, forL_cons, chkL, hs]
    by_cases h0 : 0 ≤ k
    · by_cases h1 : k < ws.length
      · cases h2 : (!two (at0 ws k) || (lkp l k).isSome) with
        | false =>
          simp only [okK, inW, h0, h1, h2]
          simp only [Bool.or_eq_false_iff, Bool.not_eq_false'] at h2
          simp [u_law_leaf_1, eCh_eq, h0, h1, law_whole_run, dIx_lm h0 h1, law_two_run, dIn_lD, h2]
        | true =>
          have h3 : (two (at0 ws k) && !(lkp l k).isSome) = false := by
            revert h2
            cases two (at0 ws k) <;> cases (lkp l k).isSome <;> decide
          have h4 : (two (at0 ws k) = true ∧ lkp l k = none) = False := by
            revert h2
            cases two (at0 ws k) <;> cases lkp l k <;> simp
          cases o with
          | none =>
            simp [okK, inW, h0, h1, h2]
            simp [u_law_leaf_1, eCh_eq, h0, h1, law_whole_run, dIx_lm h0 h1, law_two_run, dIn_lD, h3, h4, oD, e0, show (lkp l k).getD false = lieK l k from rfl, law_sides_run, axis_pD]
            simpa [oD, Int.add_assoc] using ih
          | some j =>
            simp only [okK, inW, h0, h1, h2]
            cases h5 : hasT told up j k with
            | false => simp [u_law_leaf_1, eCh_eq, h0, h1, law_whole_run, dIx_lm h0 h1, law_two_run, dIn_lD, h3, h4, oD, e0, dIn_told, h5]
            | true =>
              simp [u_law_leaf_1, eCh_eq, h0, h1, law_whole_run, dIx_lm h0 h1, law_two_run, dIn_lD, h3, h4, oD, e0, show (lkp l k).getD false = lieK l k from rfl, law_sides_run, axis_pD, dIn_told, h5]
              simpa [oD, Int.add_assoc] using ih
      · simp [u_law_leaf_1, eCh_eq, h0, h1, okK, inW, law_whole_run]
    · simp [u_law_leaf_1, eCh_eq, h0, okK, inW, law_whole_run]
theorem in_words (up : Bool) : dIn true (.str (wS up)) (.tup [.str "across", .str "up"]) = .ok (.bl false) := by
  have h : ((["across", "up"] : List Str).any fun z => z == wS up) = true := by cases up <;> decide +kernel
  show Rs.ok (D.bl (true.xor (([("across" : Str), "up"] : List Str).any fun z => z == wS up))) = _
  rw [h]
  rfl
theorem law_leaf_run (n : Nat) (box : Int × Int) (ws : List Wr) (up : Bool) (ns : List Int) (l : Lie) (told : Told) :
    run (n + 2) .law_leaf [pD box, .lst (ws.map wD), leafD up ns, lD l, .lst (told.map tD)] = .ok (.bl (leafS box ws up ns l told)) := by
  rw [r_law_leaf]
  cases ns with
  | nil => simp [b_law_leaf, leafD, leafS, in_words]
  | cons k r =>
    have h1 := lawleaf_loop n (some (pD box)) ws l told up (.lst ((k :: r).map D.int)) (k :: r) 0 none none
    rw [chkL_none] at h1
    have hl : ((((k :: r).map D.int).length : Nat) : Int) ≠ 0 := by simp; omega
    have hne : (k :: r).map D.int ≠ [] := by simp
    simp only [leafD, oD] at h1 ⊢
    generalize hq : (k :: r).map D.int = q at *
    cases ha : (k :: r).all (okK ws l) && linkd told up (k :: r) with
    | false =>
      have := h1.2 ha
      have hr : leafS box ws up (k :: r) l told = false := by
        unfold leafS
        simp only [Bool.and_assoc]
        rw [← Bool.and_assoc ((k :: r).all _), ha]
        simp
      simp [b_law_leaf, in_words, hl, this, hr, hne]
    | true =>
      obtain ⟨a', b', e1⟩ := h1.1 ha
      have hr : leafS box ws up (k :: r) l told = decide (sd box up < sumK ws l up (k :: r)) := by
        unfold leafS
        simp only [Bool.and_assoc]
        rw [← Bool.and_assoc ((k :: r).all _), ha]
        simp
      simp [b_law_leaf, in_words, hl, e1, hr, hne, axis_pD]
theorem law_bars_run (box : Int × Int) (ws : List Wr) : ∀ (p : Pa) (n : Nat) (l : Lie) (told : Told) (room : Int), 2 * dpt p + 4 ≤ n → (dpt p : Int) < room → l.length + dpt p ≤ 1000000 → told.length + dpt p ≤ 1000000 →
    run n .law_bars [pD box, .lst (ws.map wD), paD p, lD l, .lst (told.map tD), .int room] = .ok (.bl (barsS box ws p l told))
  | .chain up ns, n, l, told, room, hn, hr, h1, h2 => by
    obtain ⟨m, rfl⟩ : ∃ m, n = m + 3 := ⟨n - 3, by omega⟩
    rw [r_law_bars]
    have e := law_leaf_run m box ws up ns l told
    simp only [leafD, dpt] at e hr
    have hr : room ≠ 0 := by omega
    simp [b_law_bars, paD, leafD, e, barsS, hr]
  | .turn k a b, n, l, told, room, hn, hr, h1, h2 => by
    simp only [dpt] at hn hr h1 h2
    obtain ⟨m, rfl⟩ : ∃ m, n = m + 3 := ⟨n - 3, by omega⟩
    have hr0 : room ≠ 0 := by omega
    rw [r_law_bars]
    simp [b_law_bars, paD, hr0]
    rw [r_law_turn]
    by_cases h0 : 0 ≤ k
    · by_cases h3 : k < ws.length
      · cases hl : lkp l k with
        | some c => simp [b_law_turn, eCh_eq, barsS, inW, h0, h3, dIn_lD, hl, law_whole_run]
        | none =>
          cases ht : two (at0 ws k) with
          | false => simp [b_law_turn, eCh_eq, barsS, inW, h0, h3, dIn_lD, hl, dIx_lm h0 h3, ht, law_whole_run, law_two_run]
          | true =>
            have ia := law_bars_run box ws a (m + 1) (l ++ [(k, false)]) told (room - 1) (by omega) (by omega) (by rw [List.length_append]; simp; omega) (by omega)
            have ib := law_bars_run box ws b (m + 1) (l ++ [(k, true)]) told (room - 1) (by omega) (by omega) (by rw [List.length_append]; simp; omega) (by omega)
            have su : ∀ (c : Bool), sSetIx 8 (eVar 6) (eVar 7) [some (pD box), some (.lst (ws.map wD)), some (.tup [.str "turn", .int k, paD a, paD b]), some (lD l), some (.lst (told.map tD)), some (.int room), some (.int k), some (.bl c), some (lD l)] = .nx [some (pD box), some (.lst (ws.map wD)), some (.tup [.str "turn", .int k, paD a, paD b]), some (lD l), some (.lst (told.map tD)), some (.int room), some (.int k), some (.bl c), some (lD (l ++ [(k, c)]))] := by
              intro c
              rw [sSetIx_dic (ks := l.map (·.1)) (vs := l.map fun p => .bl p.2) (n := k) (v := .bl c) rfl rfl rfl (by rw [List.length_map]; omega), dPut_lD hl]
              rfl
            generalize hb : barsS box ws (.turn k a b) l told = res
            simp only [barsS] at hb
            generalize barsS box ws a _ told = x1 at ia hb
            generalize barsS box ws b _ told = x2 at ib hb
            simp [inW, h0, h3, hl, ht] at hb
            subst hb
            cases x1 <;> cases x2 <;> simp [b_law_turn, u_law_turn_1, eCh_eq, barsS, inW, h0, h3, dIn_lD, hl, dIx_lm h0 h3, ht, dDict_lD, su, ia, ib, law_whole_run, law_two_run]
      · simp [b_law_turn, eCh_eq, barsS, inW, h0, h3, law_whole_run]
    · simp [b_law_turn, eCh_eq, barsS, inW, h0, law_whole_run]
  | .pair i j p q r s, n, l, told, room, hn, hr, h1, h2 => by
    simp only [dpt] at hn hr h1 h2
    obtain ⟨m, rfl⟩ : ∃ m, n = m + 2 := ⟨n - 2, by omega⟩
    have hr0 : room ≠ 0 := by omega
    rw [r_law_bars]
    by_cases hij : i = j
    · simp [b_law_bars, paD, barsS, hij, hr0, law_whole_run]
    · by_cases h0 : 0 ≤ i
      · by_cases h3 : i < ws.length
        · by_cases h4 : 0 ≤ j
          · by_cases h5 : j < ws.length
            · have ia := law_bars_run box ws p (m + 1) l (told ++ [(false, i, j)]) (room - 1) (by omega) (by omega) (by omega) (by rw [List.length_append]; simp; omega)
              have ib := law_bars_run box ws q (m + 1) l (told ++ [(false, j, i)]) (room - 1) (by omega) (by omega) (by omega) (by rw [List.length_append]; simp; omega)
              have ic := law_bars_run box ws r (m + 1) l (told ++ [(true, i, j)]) (room - 1) (by omega) (by omega) (by omega) (by rw [List.length_append]; simp; omega)
              have id := law_bars_run box ws s (m + 1) l (told ++ [(true, j, i)]) (room - 1) (by omega) (by omega) (by omega) (by rw [List.length_append]; simp; omega)
              have ad : ∀ x : D, dAdd (.lst (told.map tD)) (.lst [x]) = .ok (.lst (told.map tD ++ [x])) := fun x => dAdd_lst (by simp; omega)
              have hg : iRan1 [.int 4] = .ok [.int 0, .int 1, .int 2, .int 3] := by rw [iRan1_le (by decide) (by decide)]; rfl
              simp [tD, wS] at ia ib ic id
              generalize hb : barsS box ws (.pair i j p q r s) l told = res
              simp only [barsS] at hb
              generalize barsS box ws p l _ = x1 at ia hb
              generalize barsS box ws q l _ = x2 at ib hb
              generalize barsS box ws r l _ = x3 at ic hb
              generalize barsS box ws s l _ = x4 at id hb
              simp [inW, hij, h0, h3, h4, h5] at hb
              subst hb
              cases x1 <;> cases x2 <;> cases x3 <;> cases x4 <;> simp [b_law_bars, u_law_bars_1, paD, eCh_eq, hij, h0, h3, h4, h5, hr0, law_whole_run, ad, hg, ia, ib, ic, id]
            · simp [b_law_bars, paD, eCh_eq, barsS, inW, hij, h0, h3, h4, h5, hr0, law_whole_run]
          · simp [b_law_bars, paD, eCh_eq, barsS, inW, hij, h0, h3, h4, hr0, law_whole_run]
        · simp [b_law_bars, paD, eCh_eq, barsS, inW, hij, h0, h3, hr0, law_whole_run]
      · simp [b_law_bars, paD, eCh_eq, barsS, inW, hij, h0, hr0, law_whole_run]
end L2.Lw

namespace L2.Lw
open PySem L2.Pd
/-! ### the drawn papers -/
theorem law_copy_flat (n : Nat) {d : D} (h : dIs "tuple" d = .ok (.bl false)) (h' : dIs "list" d = .ok (.bl false)) : run (n + 1) .law_copy [d] = .ok d := by
  rw [r_law_copy]
  simp [b_law_copy, h, h']
theorem law_copy_lst (n : Nat) (l : List D) : run (n + 1) .law_copy [.lst l] = .ok (.lst l) := by
  rw [r_law_copy]
  simp [b_law_copy]
theorem law_copy_tup (n : Nat) (l : List D) (hl : l.length ≤ 16000000) (h : ∀ x ∈ l, run n .law_copy [x] = .ok x) : run (n + 1) .law_copy [.tup l] = .ok (.tup l) := by
  rw [r_law_copy]
  have e : lcL [1] (gN 1) tAll (b_law_copy_1 (run n)) [some (D.tup l), none] l [] = .ok (.lst l) := lcL_id l hl fun x hx => ⟨_, rfl, by
    rw [u_law_copy_1]
    simp [wipeD, h x hx]⟩
  simp [b_law_copy, e]
theorem law_copy_run : ∀ (p : Pa) (n : Nat), dpt p + 2 ≤ n → run n .law_copy [paD p] = .ok (paD p)
  | .chain up ns, n, h => by
    obtain ⟨m, rfl⟩ : ∃ m, n = m + 2 := ⟨n - 2, by omega⟩
    refine law_copy_tup _ _ (by simp) ?_
    intro x hx
    simp only [List.mem_cons, List.not_mem_nil, or_false] at hx
    rcases hx with rfl | rfl | rfl
    · exact law_copy_flat _ rfl rfl
    · exact law_copy_flat _ rfl rfl
    · exact law_copy_lst _ _
  | .turn k a b, n, h => by
    simp only [dpt] at h
    obtain ⟨m, rfl⟩ : ∃ m, n = m + 2 := ⟨n - 2, by omega⟩
    refine law_copy_tup _ _ (by simp) ?_
    intro x hx
    simp only [List.mem_cons, List.not_mem_nil, or_false] at hx
    rcases hx with rfl | rfl | rfl | rfl
    · exact law_copy_flat _ rfl rfl
    · exact law_copy_flat _ rfl rfl
    · exact law_copy_run a _ (by omega)
    · exact law_copy_run b _ (by omega)
  | .pair i j p q r s, n, h => by
    simp only [dpt] at h
    obtain ⟨m, rfl⟩ : ∃ m, n = m + 2 := ⟨n - 2, by omega⟩
    refine law_copy_tup _ _ (by simp) ?_
    intro x hx
    simp only [List.mem_cons, List.not_mem_nil, or_false] at hx
    rcases hx with rfl | rfl | rfl | rfl | rfl | rfl | rfl
    · exact law_copy_flat _ rfl rfl
    · exact law_copy_flat _ rfl rfl
    · exact law_copy_flat _ rfl rfl
    · exact law_copy_run p _ (by omega)
    · exact law_copy_run q _ (by omega)
    · exact law_copy_run r _ (by omega)
    · exact law_copy_run s _ (by omega)
theorem paD_lay : ∀ p : Pa, (paD p).lay = true
  | .chain up ns => by simp [paD, leafD, lay_tup, lay_lst, lay_str, wS_ok, show PyData.strOk "chain" = true by decide +kernel]
  | .turn k a b => by simp [paD, lay_tup, lay_str, show PyData.strOk "turn" = true by decide +kernel, paD_lay a, paD_lay b]
  | .pair i j p q r s => by simp [paD, lay_tup, lay_str, show PyData.strOk "pair" = true by decide +kernel, paD_lay p, paD_lay q, paD_lay r, paD_lay s]
theorem paD_dep : ∀ p : Pa, (paD p).dep ≤ dpt p + 2
  | .chain up ns => dep_tup (k := 1) (by
    intro x hx
    simp only [List.mem_cons, List.not_mem_nil, or_false] at hx
    rcases hx with rfl | rfl | rfl
    · simp
    · simp
    · exact dep_lst (k := 0) (by simp))
  | .turn k a b => by
    have ha := paD_dep a
    have hb := paD_dep b
    refine Nat.le_trans (dep_tup (k := max (dpt a) (dpt b) + 2) ?_) (by simp only [dpt]; omega)
    intro x hx
    simp only [List.mem_cons, List.not_mem_nil, or_false] at hx
    rcases hx with rfl | rfl | rfl | rfl <;> first | (simp; done) | omega
  | .pair i j p q r s => by
    have ha := paD_dep p
    have hb := paD_dep q
    have hc := paD_dep r
    have hd := paD_dep s
    refine Nat.le_trans (dep_tup (k := max (max (dpt p) (dpt q)) (max (dpt r) (dpt s)) + 2) ?_) (by simp only [dpt]; omega)
    intro x hx
    simp only [List.mem_cons, List.not_mem_nil, or_false] at hx
    rcases hx with rfl | rfl | rfl | rfl | rfl | rfl | rfl <;> first | (simp; done) | omega
theorem law_cell_run (n : Nat) (ns : List Int) (k : Int) (h : 0 ≤ k) : run (n + 1) .law_cell [.lst (ns.map D.int), .int k] = .ok (.int (cel ns k)) := by
  rw [r_law_cell]
  by_cases h1 : k < ns.length
  · simp [b_law_cell, h1, dIx_lm h h1, cel]
  · simp [b_law_cell, h1, cel]
theorem leaf_drawn_run (n : Nat) (cell many : Int) (told : Told) (honest : Bool) (hm : 0 < many) (hm' : many ≤ 100) (ht : told.length ≤ 1000) :
    ∃ up ns, run (n + 1) .law_leaf_drawn [.int cell, .lst (told.map tD), .int many, .bl honest] = .ok (leafD up ns) := by
  rw [r_law_leaf_drawn]
  cases hc : (decide (0 < (told.length : Int)) && (honest || decide (cell % 8 < 5))) with
  | true =>
    simp only [Bool.and_eq_true, decide_eq_true_eq] at hc
    have h0 : 0 < min 2 (told.length : Int) := by omega
    have h1 := Int.emod_nonneg (cell / 8) (show min 2 (told.length : Int) ≠ 0 by omega)
    have h2 := Int.emod_lt_of_pos (cell / 8) h0
    have hi : dIx (.lst (told.map tD)) (.int ((told.length : Int) - 1 - cell / 8 % min 2 (told.length : Int))) = .ok (tD (at0 told ((told.length : Int) - 1 - cell / 8 % min 2 (told.length : Int)))) := dIx_lm (by omega) (by omega)
    refine ⟨(at0 told ((told.length : Int) - 1 - cell / 8 % min 2 (told.length : Int))).1, [(at0 told ((told.length : Int) - 1 - cell / 8 % min 2 (told.length : Int))).2.1, (at0 told ((told.length : Int) - 1 - cell / 8 % min 2 (told.length : Int))).2.2], ?_⟩
    have hc2 : (honest = true ∨ cell % 8 < 5) := by simpa using hc.2
    have hc1 : told ≠ [] := by intro h; rw [h] at hc; simp at hc
    simp (disch := omega) [b_law_leaf_drawn, dMod_of, dDiv_le, hi, leafD, hc.1, hc1, hc2]
    simp [tD]
    exact fun h => (hc1 h).elim
  | false =>
    have hc2 : ¬(0 < told.length ∧ (honest = true ∨ cell % 8 < 5)) := by
      intro h
      rw [Bool.and_eq_false_iff] at hc
      rcases hc with hc | hc
      · simp at hc; rw [hc] at h; simp at h
      · rcases h.2 with h | h <;> simp [h] at hc
    have hw : dIx (.tup [.str "across", .str "up"]) (.int (cell / 8 % 2)) = .ok (.str (wS (decide (cell / 8 % 2 = 1)))) := by
      rcases (by omega : cell / 8 % 2 = 0 ∨ cell / 8 % 2 = 1) with h | h <;> rw [h] <;> simp [wS]
    have hr : iRan1 [.int (cell / 4 % 3)] = .ok (rngD 0 (cell / 4 % 3).toNat) := iRan1_le (by omega) (by omega)
    obtain ⟨ns, hl⟩ : ∃ ns : List Int, lcL [6] (gN 6) tAll (b_law_leaf_drawn_1 (run n)) [some (D.int cell), some (.lst (told.map tD)), some (.int many), some (.bl honest), none, some (.str (wS (decide (cell / 8 % 2 = 1)))), none] (rngD 0 (cell / 4 % 3).toNat) [] = .ok (.lst (ns.map D.int)) := by
      refine ⟨((List.range (cell / 4 % 3).toNat).map fun k => (0 : Int) + (k : Nat)).map fun k => cell / (16 + 7 * k) % (many + 2) - 1, ?_⟩
      rw [rngD_eq, lcL_map (f := D.int) (h := D.int) (fun k => cell / (16 + 7 * k) % (many + 2) - 1) _ [] (by simp; omega)]
      · simp
      · intro x hx
        simp only [List.mem_map, List.mem_range] at hx
        obtain ⟨k, hk, rfl⟩ := hx
        refine ⟨_, rfl, ?_⟩
        rw [u_law_leaf_drawn_1]
        simp (disch := omega) [wipeD, dMul_le, dDiv_le, dMod_of]
    refine ⟨decide (cell / 8 % 2 = 1), ns, ?_⟩
    simp only [not_and] at hc2
    by_cases h0 : 0 < told.length
    · have := hc2 h0
      simp (disch := omega) [b_law_leaf_drawn, dMod_of, dDiv_le, leafD, hw, hr, hl, h0, this]
    · have h00 : told = [] := by cases told with | nil => rfl | cons a b => exact (h0 (by simp)).elim
      subst h00
      simp at hl
      simp (disch := omega) [b_law_leaf_drawn, dMod_of, dDiv_le, leafD, hw, hr, hl, h0]
end L2.Lw

namespace L2.Lw
open PySem L2.Pd
abbrev Scr (ns : List Int) : Prop := ∀ z ∈ ns, Builtin.Int.intBits z ≤ 1048576
@[simp] theorem okB_paD (p : Pa) : okB (paD p) = true := by cases p <;> rfl
theorem law_drawn_run (ns : List Int) (hz : Scr ns) (many : Int) (honest : Bool) (hm : 0 < many) (hm' : many ≤ 100) : ∀ (r n : Nat) (room at_ : Int) (told : Told), room = (r : Nat) → r + 2 ≤ n → r ≤ 6 → 0 ≤ at_ → (at_ + 2) * 4 ^ r ≤ 1000000 → told.length + r ≤ 1000 →
    ∃ p : Pa, dpt p ≤ r ∧ run n .law_drawn [.lst (ns.map D.int), .int at_, .int room, .int many, .lst (told.map tD), .bl honest] = .ok (paD p) := by
  intro r
  induction r with
  | zero =>
    intro n room at_ told he hn hr ha hb ht
    obtain ⟨m, rfl⟩ : ∃ m, n = m + 2 := ⟨n - 2, by omega⟩
    rw [r_law_drawn, show room = 0 by simpa using he]
    have e1 := law_cell_run m ns (8 + at_ % 50) (by omega)
    have e2 := dMul_bits (cel_bits hz (k := 8 + at_ % 50) (by omega)) (j := 48271) (by omega) (by omega)
    have hb : (at_ + 2) ≤ 1000000 := by simpa using hb
    obtain ⟨up, ms, e3⟩ := leaf_drawn_run m ((cel ns (8 + at_ % 50) * 48271 % 1000003 + 7919 * at_ * at_ % 1009) / 6) many told honest hm hm' (by omega)
    refine ⟨.chain up ms, Nat.le_refl _, ?_⟩
    simp (disch := omega) [b_law_drawn, dMod_of, dDiv_le, dMul_le, e1, e2, e3, paD]
  | succ r ih =>
    intro n room at_ told he hn hr ha hb ht
    obtain ⟨m, rfl⟩ : ∃ m, n = m + 2 := ⟨n - 2, by omega⟩
    have hb0 : at_ + 2 ≤ 1000000 := by
      have h4 : (1 : Int) ≤ 4 ^ (r + 1) := by
        have := Nat.one_le_two_pow (n := 0)
        exact_mod_cast Nat.pos_of_ne_zero (n := 4 ^ (r + 1)) (by simp)
      calc at_ + 2 = (at_ + 2) * 1 := by omega
        _ ≤ (at_ + 2) * 4 ^ (r + 1) := Int.mul_le_mul_of_nonneg_left h4 (by omega)
        _ ≤ _ := hb
    have hb4 : ∀ j : Int, 0 ≤ j → j ≤ 4 → (at_ * 4 + j + 2) * 4 ^ r ≤ 1000000 := fun j h0 h4 => by
      refine Int.le_trans ?_ hb
      rw [Int.pow_succ, Int.mul_comm (4 ^ r) 4, ← Int.mul_assoc]
      exact Int.mul_le_mul_of_nonneg_right (by omega) (by exact_mod_cast Nat.zero_le _)
    have e1 := law_cell_run m ns (8 + at_ % 50) (by omega)
    have e2 := dMul_bits (cel_bits hz (k := 8 + at_ % 50) (by omega)) (j := 48271) (by omega) (by omega)
    have hroom : room ≠ 0 := by omega
    have hroom' : room - 1 = (r : Nat) := by omega
    generalize hcell : (cel ns (8 + at_ % 50) * 48271 % 1000003 + 7919 * at_ * at_ % 1009) = cell
    rw [r_law_drawn]
    by_cases hk0 : cell % 6 = 0 ∧ honest = false
    · obtain ⟨up, ms, e3⟩ := leaf_drawn_run m (cell / 6) many told honest hm hm' (by omega)
      refine ⟨.chain up ms, by simp [dpt], ?_⟩
      simp (disch := omega) [b_law_drawn, dMod_of, dDiv_le, dMul_le, e1, e2, e3, paD, hcell, hk0.1, hk0.2]
      rw [hk0.2] at e3
      simp [e3, paD]
    · by_cases hk1 : cell % 6 = 1 ∧ honest = false
      · obtain ⟨p1, d1, i1⟩ := ih (m + 1) (room - 1) (at_ * 4 + 1) told hroom' (by omega) (by omega) (by omega) (hb4 1 (by omega) (by omega)) (by omega)
        obtain ⟨p2, d2, i2⟩ := ih (m + 1) (room - 1) (at_ * 4 + 2) told hroom' (by omega) (by omega) (by omega) (hb4 2 (by omega) (by omega)) (by omega)
        refine ⟨.turn (cell / 6 % (many + 2) - 1) p1 p2, by simp only [dpt]; omega, ?_⟩
        rw [hk1.2] at i1 i2 ⊢
        have hl : lcL [9] (gN 9) tAll (b_law_drawn_1 (run (m + 1))) [some (.lst (ns.map D.int)), some (.int at_), some (.int room), some (.int many), some (.lst (told.map tD)), some (.bl false), some (.int (cell / 6)), some (.int (cell % 6)), none, none, none, none, none] [.int 1, .int 2] [] = .ok (.lst [paD p1, paD p2]) := by
          have := lcL_map (ρ := [some (.lst (ns.map D.int)), some (.int at_), some (.int room), some (.int many), some (.lst (told.map tD)), some (.bl false), some (.int (cell / 6)), some (.int (cell % 6)), none, none, none, none, none]) (vs := [9]) (g := gN 9) (m := b_law_drawn_1 (run (m + 1))) (f := D.int) (h := paD) (fun x => if x = 1 then p1 else p2) [1, 2] [] (by decide) (by
            intro x hx
            simp only [List.mem_cons, List.not_mem_nil, or_false] at hx
            refine ⟨_, rfl, ?_⟩
            rw [u_law_drawn_1]
            rcases hx with rfl | rfl <;> simp (disch := omega) [wipeD, dMul_le, i1, i2])
          simpa using this
        rw [hk1.1] at hl
        simp (disch := omega) [b_law_drawn, dMod_of, dDiv_le, dMul_le, e1, e2, paD, hcell, hk1.1, hroom, hl]
      · have hk0' : ¬(cell % 6 = 0 ∧ (!honest) = true) := by simpa using hk0
        have hk1' : ¬(cell % 6 = 1 ∧ (!honest) = true) := by simpa using hk1
        have key : ∀ (i j : Int), ∃ p1 p2 p3 p4 : Pa, dpt p1 ≤ r ∧ dpt p2 ≤ r ∧ dpt p3 ≤ r ∧ dpt p4 ≤ r ∧ forL (gN 12) (b_law_drawn_2 (run (m + 1))) [.tup [.str "across", .int i, .int j], .tup [.str "across", .int j, .int i], .tup [.str "up", .int i, .int j], .tup [.str "up", .int j, .int i]]
            [some (.lst (ns.map D.int)), some (.int at_), some (.int room), some (.int many), some (.lst (told.map tD)), some (.bl honest), some (.int (cell / 6)), some (.int (cell % 6)), some (.lst []), none, some (.int i), some (.int j), none]
            = .nx [some (.lst (ns.map D.int)), some (.int at_), some (.int room), some (.int many), some (.lst (told.map tD)), some (.bl honest), some (.int (cell / 6)), some (.int (cell % 6)), some (.lst [paD p1, paD p2, paD p3, paD p4]), none, some (.int i), some (.int j), some (.tup [.str "up", .int j, .int i])] := by
          intro i j
          obtain ⟨p1, d1, i1⟩ := ih (m + 1) (room - 1) (at_ * 4 + 1) (told ++ [(false, i, j)]) hroom' (by omega) (by omega) (by omega) (hb4 1 (by omega) (by omega)) (by rw [List.length_append]; simp; omega)
          obtain ⟨p2, d2, i2⟩ := ih (m + 1) (room - 1) (at_ * 4 + 1 + 1) (told ++ [(false, j, i)]) hroom' (by omega) (by omega) (by omega) (by have := hb4 2 (by omega) (by omega); rw [Int.add_assoc (at_ * 4)]; exact this) (by rw [List.length_append]; simp; omega)
          obtain ⟨p3, d3, i3⟩ := ih (m + 1) (room - 1) (at_ * 4 + 1 + 2) (told ++ [(true, i, j)]) hroom' (by omega) (by omega) (by omega) (by have := hb4 3 (by omega) (by omega); rw [Int.add_assoc (at_ * 4)]; exact this) (by rw [List.length_append]; simp; omega)
          obtain ⟨p4, d4, i4⟩ := ih (m + 1) (room - 1) (at_ * 4 + 1 + 3) (told ++ [(true, j, i)]) hroom' (by omega) (by omega) (by omega) (by have := hb4 4 (by omega) (by omega); rw [Int.add_assoc (at_ * 4)]; exact this) (by rw [List.length_append]; simp; omega)
          refine ⟨p1, p2, p3, p4, d1, d2, d3, d4, ?_⟩
          have ad : ∀ x : D, dAdd (.lst (told.map tD)) (.lst [x]) = .ok (.lst (told.map tD ++ [x])) := fun x => dAdd_lst (by simp; omega)
          simp [tD, wS] at i1 i2 i3 i4
          simp (disch := omega) [u_law_drawn_2, sApp_eq, oApp_lst, sizeOk_of, dMul_le, ad, i1, i2, i3, i4]
        cases honest with
        | false =>
          obtain ⟨p1, p2, p3, p4, d1, d2, d3, d4, k⟩ := key (cell / 6 % (many + 2) - 1) (cell / 6 / (many + 2) % (many + 2) - 1)
          refine ⟨.pair (cell / 6 % (many + 2) - 1) (cell / 6 / (many + 2) % (many + 2) - 1) p1 p2 p3 p4, by simp only [dpt]; omega, ?_⟩
          have hk0 : ¬cell % 6 = 0 := by simpa using hk0
          have hk1 : ¬cell % 6 = 1 := by simpa using hk1
          simp (disch := omega) [b_law_drawn, dMod_of, dDiv_le, dMul_le, e1, e2, paD, hcell, hk0, hk1, hroom, k]
        | true =>
          obtain ⟨p1, p2, p3, p4, d1, d2, d3, d4, k⟩ := key (cell / 6 % many) ((cell / 6 % many + 1 + cell / 6 / many % max 1 (many - 1)) % many)
          refine ⟨.pair (cell / 6 % many) ((cell / 6 % many + 1 + cell / 6 / many % max 1 (many - 1)) % many) p1 p2 p3 p4, by simp only [dpt]; omega, ?_⟩
          simp (disch := omega) [b_law_drawn, dMod_of, dDiv_le, dMul_le, e1, e2, paD, hcell, hroom, k]
end L2.Lw

namespace L2.Lw
open PySem L2.Pd
theorem law_four_run (n : Nat) (i j : Int) : run (n + 1) .law_four [.int i, .int j] = .ok (.lst [leafD false [i, j], leafD false [j, i], leafD true [i, j], leafD true [j, i]]) := by
  rw [r_law_four]
  simp [b_law_four, leafD, wS]
@[simp] theorem okB_leafD (up : Bool) (ns : List Int) : okB (leafD up ns) = true := rfl
theorem at_cases {x : Int} (h0 : 0 ≤ x) (h4 : x < 4) : x = 0 ∨ x = 1 ∨ x = 2 ∨ x = 3 := by omega
theorem leaf_cut (up : Bool) (ns : List Int) : dSl (leafD up ns) (some 1) none = .ok (.tup [.str (wS up), .lst (ns.map D.int)]) := rfl
def DeepP (d : Nat) (x1 x2 : Option D) (ρ : Sl) : Prop := ∃ (q : Pa) (c' : Int) (y4 y5 y6 y7 y8 y9 y10 : Option D), dpt q ≤ d ∧ ρ = [some (.int c'), x1, x2, some (paD q), y4, y5, y6, y7, y8, y9, y10]
theorem deepP_mk (d : Nat) (q : Pa) {x1 x2 y4 y5 y6 y7 y8 y9 y10 : Option D} {c' : Int} {pd : D} (h : dpt q ≤ d) (e : pd = paD q) : DeepP d x1 x2 [some (.int c'), x1, x2, some pd, y4, y5, y6, y7, y8, y9, y10] := ⟨q, c', y4, y5, y6, y7, y8, y9, y10, h, by rw [e]⟩
theorem deep_body (n : Nat) (cell bad : Int) (p : Pa) (k : Int) (hb : 0 ≤ bad) (hb' : bad < 5) (x1 x5 x6 x7 x8 x9 x10 : Option D) :
    NxP (DeepP (dpt p + 1) x1 (some (.int bad))) (b_law_deep_1 (run (n + 1)) [some (.int cell), x1, some (.int bad), some (paD p), some (.int k), x5, x6, x7, x8, x9, x10]) := by
  have ad : ∀ a b : D, dAdd (.lst [a, b]) (.lst [a, b]) = .ok (.lst [a, b, a, b]) := fun _ _ => rfl
  have h2 : 0 ≤ cell / 2 % 4 := by omega
  have h3 : cell / 2 % 4 < 4 := by omega
  rw [u_law_deep_1]
  generalize hi : cell % 2 = i
  generalize ha : cell / 2 % 4 = a at h2 h3
  by_cases hk : 0 < k
  · rcases at_cases h2 h3 with rfl | rfl | rfl | rfl <;> simp (disch := omega) [dMod_of, dDiv_le, hi, ha, law_four_run, hk, sSet_at, oSet_lst, oStL_int]
    · exact deepP_mk _ (.pair i (1 - i) p (.chain false [1 - i, i]) (.chain true [i, 1 - i]) (.chain true [1 - i, i])) (by simp [dpt]) rfl
    · exact deepP_mk _ (.pair i (1 - i) (.chain false [i, 1 - i]) p (.chain true [i, 1 - i]) (.chain true [1 - i, i])) (by simp [dpt]) rfl
    · exact deepP_mk _ (.pair i (1 - i) (.chain false [i, 1 - i]) (.chain false [1 - i, i]) p (.chain true [1 - i, i])) (by simp [dpt]) rfl
    · exact deepP_mk _ (.pair i (1 - i) (.chain false [i, 1 - i]) (.chain false [1 - i, i]) (.chain true [i, 1 - i]) p) (by simp [dpt]) rfl
  · rcases (by omega : bad = 0 ∨ bad = 1 ∨ bad = 2 ∨ bad = 3 ∨ bad = 4) with rfl | rfl | rfl | rfl | rfl
    · simp (disch := omega) [dMod_of, dDiv_le, hi, ha, law_four_run, hk]
      exact deepP_mk _ (.pair i (1 - i) (.chain false [i, 1 - i]) (.chain false [1 - i, i]) (.chain true [i, 1 - i]) (.chain true [1 - i, i])) (by simp [dpt]) rfl
    · rcases at_cases h2 h3 with rfl | rfl | rfl | rfl <;> simp (disch := omega) [dMod_of, dDiv_le, hi, ha, law_four_run, hk, sSet_at, oSet_lst, oStL_int, leaf_cut, ad]
      · exact deepP_mk _ (.pair i (1 - i) (.chain false []) (.chain false [1 - i, i]) (.chain true [i, 1 - i]) (.chain true [1 - i, i])) (by simp [dpt]) rfl
      · exact deepP_mk _ (.pair i (1 - i) (.chain false [i, 1 - i]) (.chain false []) (.chain true [i, 1 - i]) (.chain true [1 - i, i])) (by simp [dpt]) rfl
      · exact deepP_mk _ (.pair i (1 - i) (.chain false [i, 1 - i]) (.chain false [1 - i, i]) (.chain true []) (.chain true [1 - i, i])) (by simp [dpt]) rfl
      · exact deepP_mk _ (.pair i (1 - i) (.chain false [i, 1 - i]) (.chain false [1 - i, i]) (.chain true [i, 1 - i]) (.chain true [])) (by simp [dpt]) rfl
    · rcases at_cases h2 h3 with rfl | rfl | rfl | rfl <;> simp (disch := omega) [dMod_of, dDiv_le, hi, ha, law_four_run, hk, sSet_at, oSet_lst, oStL_int, leaf_cut, ad]
      · exact deepP_mk _ (.pair i (1 - i) (.chain false [1 - i, i]) (.chain false [1 - i, i]) (.chain true [i, 1 - i]) (.chain true [1 - i, i])) (by simp [dpt]) rfl
      · exact deepP_mk _ (.pair i (1 - i) (.chain false [i, 1 - i]) (.chain false [i, 1 - i]) (.chain true [i, 1 - i]) (.chain true [1 - i, i])) (by simp [dpt]) rfl
      · exact deepP_mk _ (.pair i (1 - i) (.chain false [i, 1 - i]) (.chain false [1 - i, i]) (.chain true [1 - i, i]) (.chain true [1 - i, i])) (by simp [dpt]) rfl
      · exact deepP_mk _ (.pair i (1 - i) (.chain false [i, 1 - i]) (.chain false [1 - i, i]) (.chain true [i, 1 - i]) (.chain true [i, 1 - i])) (by simp [dpt]) rfl
    · rcases at_cases h2 h3 with rfl | rfl | rfl | rfl <;> simp (disch := omega) [dMod_of, dDiv_le, hi, ha, law_four_run, hk, sSet_at, oSet_lst, oStL_int, leaf_cut, ad]
      · exact deepP_mk _ (.pair i (1 - i) (.chain false [i, 2]) (.chain false [1 - i, i]) (.chain true [i, 1 - i]) (.chain true [1 - i, i])) (by simp [dpt]) rfl
      · exact deepP_mk _ (.pair i (1 - i) (.chain false [i, 1 - i]) (.chain false [1 - i, 2]) (.chain true [i, 1 - i]) (.chain true [1 - i, i])) (by simp [dpt]) rfl
      · exact deepP_mk _ (.pair i (1 - i) (.chain false [i, 1 - i]) (.chain false [1 - i, i]) (.chain true [i, 2]) (.chain true [1 - i, i])) (by simp [dpt]) rfl
      · exact deepP_mk _ (.pair i (1 - i) (.chain false [i, 1 - i]) (.chain false [1 - i, i]) (.chain true [i, 1 - i]) (.chain true [1 - i, 2])) (by simp [dpt]) rfl
    · rcases at_cases h2 h3 with rfl | rfl | rfl | rfl <;> simp (disch := omega) [dMod_of, dDiv_le, hi, ha, law_four_run, hk, sSet_at, oSet_lst, oStL_int, leaf_cut, ad]
      · exact deepP_mk _ (.pair i (1 - i) (.chain false [i, 1 - i, i, 1 - i]) (.chain false [1 - i, i]) (.chain true [i, 1 - i]) (.chain true [1 - i, i])) (by simp [dpt]) rfl
      · exact deepP_mk _ (.pair i (1 - i) (.chain false [i, 1 - i]) (.chain false [1 - i, i, 1 - i, i]) (.chain true [i, 1 - i]) (.chain true [1 - i, i])) (by simp [dpt]) rfl
      · exact deepP_mk _ (.pair i (1 - i) (.chain false [i, 1 - i]) (.chain false [1 - i, i]) (.chain true [i, 1 - i, i, 1 - i]) (.chain true [1 - i, i])) (by simp [dpt]) rfl
      · exact deepP_mk _ (.pair i (1 - i) (.chain false [i, 1 - i]) (.chain false [1 - i, i]) (.chain true [i, 1 - i]) (.chain true [1 - i, i, 1 - i, i])) (by simp [dpt]) rfl
theorem deep_loop (n : Nat) (bad : Int) (hb : 0 ≤ bad) (hb' : bad < 5) (x1 : Option D) : ∀ (r : List Int) (cell : Int) (p : Pa) (x4 x5 x6 x7 x8 x9 x10 : Option D),
    NxP (DeepP (dpt p + r.length) x1 (some (.int bad))) (forL (gN 4) (b_law_deep_1 (run (n + 1))) (r.map D.int) [some (.int cell), x1, some (.int bad), some (paD p), x4, x5, x6, x7, x8, x9, x10])
  | [], cell, p, x4, x5, x6, x7, x8, x9, x10 => by
    simp
    exact deepP_mk _ p (Nat.le_refl _) rfl
  | k :: r, cell, p, x4, x5, x6, x7, x8, x9, x10 => by
    obtain ⟨ρ, e, q, c', y4, y5, y6, y7, y8, y9, y10, hq, rfl⟩ := deep_body n cell bad p k hb hb' x1 x5 x6 x7 x8 x9 x10
    obtain ⟨ρ2, e2, q2, c2, z4, z5, z6, z7, z8, z9, z10, hq2, rfl⟩ := deep_loop n bad hb hb' x1 r c' q y4 y5 y6 y7 y8 y9 y10
    rw [List.map_cons, forL_cons]
    simp [e, e2]
    exact deepP_mk _ q2 (by omega) rfl
theorem law_deep_run (n : Nat) (cell many bad : Int) (hm : 0 ≤ many) (hm' : many ≤ 40) (hb : 0 ≤ bad) (hb' : bad < 5) : ∃ p : Pa, dpt p ≤ many.toNat ∧ run (n + 2) .law_deep [.int cell, .int many, .int bad] = .ok (paD p) := by
  rw [r_law_deep]
  obtain ⟨ρ, e, q, c', y4, y5, y6, y7, y8, y9, y10, hq, rfl⟩ := deep_loop n bad hb hb' (some (.int many)) ((List.range many.toNat).map fun k => (0 : Int) + (k : Nat)) cell (.chain false [0, 1]) none none none none none none none
  refine ⟨q, by simpa [dpt] using hq, ?_⟩
  rw [← rngD_eq] at e
  simp only [paD, leafD, wS] at e
  simp at e
  simp [b_law_deep, iRan1_le hm (by omega), e]
def wareS (cell unit : Int) (turns : Bool) : Wr := (unit * (1 + cell % 5) + cell / 50 % 3, unit * (1 + cell / 5 % 5) + cell / 150 % 3, turns && (cell / 25 % 2 == 1))
theorem law_ware_run (n : Nat) (cell unit : Int) (turns : Bool) (h0 : 0 ≤ unit) (h1 : unit ≤ 1000000000000000000000000000000000000000) : run (n + 1) .law_ware [.int cell, .int unit, .bl turns] = .ok (wD (wareS cell unit turns)) := by
  rw [r_law_ware]
  simp (disch := omega) [b_law_ware, dMod_of, dDiv_le, dMul_le, wD, wareS]
theorem eqv_wD (a b : Wr) : (wD a).eqv (wD b) = (a == b) := by
  obtain ⟨u, i, j⟩ := a
  obtain ⟨v, i', j'⟩ := b
  simp only [wD, eqv_tup, eqvs_cons, eqvs_nil, eqv_bl, eqv_int, Bool.and_true]
  rfl
theorem dEq_wares (ws : List Wr) : dEq (.lst (ws.map wD)) (.lst (ws.map wD)) = .ok (.bl true) := dEq_self (by simp [lay_lst, wD, lay_tup]) (Nat.le_trans (dep_lst (k := 1) (by
  intro x hx
  obtain ⟨w, _, rfl⟩ := List.mem_map.mp hx
  exact dep_tup (k := 0) (by simp))) (by decide))
theorem dEq_paper (p : Pa) (h : dpt p ≤ 60) : dEq (paD p) (paD p) = .ok (.bl true) := dEq_self (paD_lay p) (Nat.le_trans (paD_dep p) (by omega))
theorem deep_right_run (n : Nat) (ns : List Int) (hz : Scr ns) (unit : Int) (h0 : 0 ≤ unit) (h1 : unit ≤ 1000000000000000000000000000000000000000) : run (n + 100) .law_deep_right [.lst (ns.map D.int), .int unit] = .ok (.bl true) := by
  rw [show n + 100 = (n + 99) + 1 from rfl, r_law_deep_right]
  have hl : lcL [3] (gN 3) tAll (b_law_deep_right_1 (run (n + 99))) [some (.lst (ns.map D.int)), some (.int unit), none, none, none, none, none, none, none, none] (rngD 0 2) [] = .ok (.lst ([wareS (cel ns 3) unit false, wareS (cel ns 4) unit false].map wD)) := by
    have := lcL_map (ρ := [some (.lst (ns.map D.int)), some (.int unit), none, none, none, none, none, none, none, none]) (vs := [3]) (g := gN 3) (m := b_law_deep_right_1 (run (n + 99))) (f := D.int) (h := wD) (fun x => wareS (cel ns (3 + x)) unit false) [0, 1] [] (by decide) (by
      intro x hx
      refine ⟨_, rfl, ?_⟩
      rw [u_law_deep_right_1]
      simp only [List.mem_cons, List.not_mem_nil, or_false] at hx
      have e1 := law_cell_run (n + 98) ns (3 + x) (by omega)
      simp [wipeD, e1, law_ware_run _ _ _ _ h0 h1])
    rw [show rngD 0 2 = [.int 0, .int 1] from rfl]
    simpa using this
  have c58 := law_cell_run (n + 98) ns 58 (by omega)
  have c59 := law_cell_run (n + 98) ns 59 (by omega)
  have c60 := law_cell_run (n + 98) ns 60 (by omega)
  have c0 := law_cell_run (n + 98) ns 0 (by omega)
  obtain ⟨p, hp, e⟩ := law_deep_run (n + 97) (cel ns 59) ((cel ns 0 + cel ns 58 / 16) % 40) (cel ns 60 % 8 % 5) (by omega) (by omega) (by omega) (by omega)
  have hp' : dpt p ≤ 39 := by omega
  generalize hws : [wareS (cel ns 3) unit false, wareS (cel ns 4) unit false] = ws at hl
  have hi0 : dIx (.lst (ws.map wD)) (.int 0) = .ok (wD (wareS (cel ns 3) unit false)) := by rw [← hws]; simp
  have hi1 : dIx (.lst (ws.map wD)) (.int 1) = .ok (wD (wareS (cel ns 4) unit false)) := by rw [← hws]; simp
  have w0 : ∀ w : Wr, dIx (wD w) (.int 0) = .ok (.int w.1) := fun w => by simp [wD]
  have w1 : ∀ w : Wr, dIx (wD w) (.int 1) = .ok (.int w.2.1) := fun w => by simp [wD]
  generalize wareS (cel ns 3) unit false = u at hi0
  generalize wareS (cel ns 4) unit false = v at hi1
  have eb := bars_all_run (u.1 + v.1 - 1 + cel ns 58 % 4 / 3, u.2.1 + v.2.1 - 1 + cel ns 58 / 4 % 4 / 3) ws p (n + 99) (by omega) (by omega)
  have el := law_bars_run (u.1 + v.1 - 1 + cel ns 58 % 4 / 3, u.2.1 + v.2.1 - 1 + cel ns 58 / 4 % 4 / 3) ws p (n + 99) [] [] 41 (by omega) (by omega) (by simp; omega) (by simp; omega)
  have ec := law_copy_run p (n + 99) (by omega)
  simp only [lD, List.map_nil, pD] at el eb
  simp (disch := omega) [b_law_deep_right, iRan1_le, hl, c58, c59, c60, c0, dMod_of, dDiv_le, e, hi0, hi1, w0, w1, eb, el, ec, dEq_paper]
theorem law_true : ∀ ns : List Int, ns.length ≤ 63 → (∀ z ∈ ns, Builtin.Int.intBits z ≤ 1048576) → run 200 .law [.lst (ns.map D.int)] = .ok (.bl true) := by
  intro ns _ hz
  rw [r_law]
  have c0 := law_cell_run 198 ns 0 (by omega)
  have c1 := law_cell_run 198 ns 1 (by omega)
  have c2 := law_cell_run 198 ns 2 (by omega)
  have c7 := law_cell_run 198 ns 7 (by omega)
  have hpow : dPow (.int 10) (.int 38) = .ok (.int 100000000000000000000000000000000000000) := by
    show (if powOk 10 38 = true then Rs.ok (D.int (10 ^ (38 : Int).toNat)) else .bad) = _
    rw [if_pos (by decide +kernel)]
    rfl
  generalize hm : 1 + cel ns 0 % 3 = many
  have hm0 : 0 < many := by omega
  have hm1 : many ≤ 3 := by omega
  generalize hh : (cel ns 0 / 3 % 2 == 1) = honest
  generalize hu : 1 + cel ns 1 % 100000000000000000000000000000000000000 = unit
  have hu0 : 0 < unit := by omega
  have hu1 : unit ≤ 100000000000000000000000000000000000000 := by omega
  have hr := iRan1_le (j := many) (by omega) (by omega)
  obtain ⟨ws, hws, hwl, hl⟩ : ∃ ws : List Wr, ws ≠ [] ∧ ws.length ≤ 3 ∧ lcL [5] (gN 5) tAll (b_law_1 (run 199)) [some (.lst (ns.map D.int)), some (.int many), some (.bl honest), some (.int unit), none, none, none, none, none, none, none, none, none, none, none] (rngD 0 many.toNat) [] = .ok (.lst (ws.map wD)) := by
    refine ⟨((List.range many.toNat).map fun k => (0 : Int) + (k : Nat)).map fun k => wareS (cel ns (3 + k)) unit (!honest), ?_, by simp; omega, ?_⟩
    · intro h
      have := congrArg List.length h
      simp at this
      omega
    · rw [rngD_eq, lcL_map (f := D.int) (h := wD) (fun k => wareS (cel ns (3 + k)) unit (!honest)) _ [] (by simp; omega)]
      · simp
      · intro x hx
        simp only [List.mem_map, List.mem_range] at hx
        obtain ⟨k, hk, rfl⟩ := hx
        refine ⟨_, rfl, ?_⟩
        rw [u_law_1]
        have e1 := law_cell_run 198 ns (3 + (0 + (k : Int))) (by omega)
        simp at e1
        simp [wipeD, e1, law_ware_run _ _ _ _ (show 0 ≤ unit by omega) (show unit ≤ 1000000000000000000000000000000000000000 by omega)]
  obtain ⟨p, hp, ep⟩ := law_drawn_run ns hz many honest hm0 (by omega) (1 + cel ns 0 / 6 % 3).toNat 199 (1 + cel ns 0 / 6 % 3) 0 [] (by omega) (by omega) (by omega) (by omega) (by
    rcases (by omega : cel ns 0 / 6 % 3 = 0 ∨ cel ns 0 / 6 % 3 = 1 ∨ cel ns 0 / 6 % 3 = 2) with h | h | h <;> rw [h] <;> decide) (by simp; omega)
  have hp' : dpt p ≤ 39 := by omega
  have ec := law_copy_run p 199 (by omega)
  have ed := deep_right_run 99 ns hz unit (by omega) (by omega)
  have eb : ∀ box : Int × Int, run 199 .bars_all [pD box, .lst (ws.map wD), paD p] = .ok (.bl (barsS box ws p [] [])) := fun box => bars_all_run box ws p 199 (by omega) (by omega)
  have el : ∀ box : Int × Int, run 199 .law_bars [pD box, .lst (ws.map wD), paD p, .dic [] [], .lst [], .int 41] = .ok (.bl (barsS box ws p [] [])) := fun box => law_bars_run box ws p 199 [] [] 41 (by omega) (by omega) (by simp; omega) (by simp; omega)
  have hr2 : rngD 0 2 = [.int 0, .int 1] := rfl
  simp only [List.map_nil] at ep
  by_cases h3 : cel ns 1 % 3 = 0
  · obtain ⟨ms, hms, hl2⟩ : ∃ ms : List Int, ms ≠ [] ∧ ∀ x6, lcL [8] (gN 8) tAll (b_law_2 (run 199)) [some (.lst (ns.map D.int)), some (.int many), some (.bl honest), some (.int unit), some (.lst (ws.map wD)), none, x6, none, none, none, none, none, none, none, none] (ws.map wD) [] = .ok (.lst (ms.map D.int)) := by
      refine ⟨ws.map fun w => max w.1 w.2.1, by simpa using hws, fun x6 => ?_⟩
      rw [lcL_map (f := wD) (h := D.int) (fun w => max w.1 w.2.1) _ [] (by simp; omega)]
      · simp
      · intro x hx
        refine ⟨_, rfl, ?_⟩
        rw [u_law_2]
        simp [wipeD, wD]
    have eb := eb (maxL ms, maxL ms)
    have el := el (maxL ms, maxL ms)
    simp only [pD] at eb el
    simp (disch := omega) [b_law, c0, c1, c2, c7, hm, hh, hpow, hu, hr, hl, dMod_of, dDiv_le, dMul_le, h3, hl2, dMax_map hms, ep, el, ec, iRan1_le, hr2, u_law_3, eb, dEq_paper, dEq_wares, ed]
  · have eb := eb (cel ns 2 % (9 * unit), cel ns 7 % (9 * unit))
    have el := el (cel ns 2 % (9 * unit), cel ns 7 % (9 * unit))
    simp only [pD] at eb el
    simp (disch := omega) [b_law, c0, c1, c2, c7, hm, hh, hpow, hu, hr, hl, dMod_of, dDiv_le, dMul_le, h3, ep, el, ec, iRan1_le, hr2, u_law_3, eb, dEq_paper, dEq_wares, ed]
end L2.Lw
open PySem PySem.W PyProof.Rows
set_option maxRecDepth 100000 in
set_option maxHeartbeats 0 in
theorem PySem.Challenge.cw_cratefit_k34_papers_looked_at_holds : PySem.Challenge.rw_cratefit_k34_papers_looked_at.Holds := by
  w_on; o_law; k_head; (case hw => w_witness2)
  k_fill
  refine L2.walk_ofB (l := PySem.Challenge.rw_cratefit_k34_papers_looked_at) (n := 63) (k := 200) (x := "script") (CX := fun w => L2.CX PySem.Challenge.rw_cratefit_k34_papers_looked_at.prog w) (sp := fun w => L2.Pd.spLaw _) rfl (by decide) rfl ⟨rfl, by decide, by decide⟩ (fun w h Y => PySem.W.kIn_of Y) ?F (fun _ _ a ns hl hb _ hS => ⟨a, ns, rfl, hS, hl, hb, fun _ => rfl⟩) (fun _ _ _ _ _ h => L2.Pd.no_exc h)
  case F =>
    intro w mg fa h KX G hmg
    refine' L2.Lw.all_mk KX G hmg ?a0 ?l0 ?c0 ?k0 ?a1 ?l1 ?c1 ?k1 ?a2 ?l2 ?c2 ?k2 ?a3 ?l3 ?c3 ?k3 ?a4 ?l4 ?c4 ?k4 ?a5 ?l5 ?c5 ?k5 ?a6 ?l6 ?c6 ?k6 ?a7 ?l7 ?c7 ?k7 ?a8 ?l8 ?c8 ?k8 ?a9 ?l9 ?c9 ?k9 ?a10 ?l10 ?c10 ?k10 ?a11 ?l11 ?c11 ?k11 ?a12 ?l12 ?c12 ?k12 ?a13 ?l13 ?c13 ?k13 ?a14 ?l14 ?c14 ?k14 ?a15 ?l15 ?c15 ?k15 ?a16 ?l16 ?c16 ?k16 ?a17 ?l17 ?c17 ?k17 ?a18 ?l18 ?c18 ?k18 ?a19 ?l19 ?c19 ?k19 ?a20 ?l20 ?c20 ?k20 ?a21 ?l21 ?c21 ?k21 ?a22 ?l22 ?c22 ?k22 ?a23 ?l23 ?c23 ?k23 ?a24 ?l24 ?c24 ?k24 ?z_len ?z_zip ?z_dict ?z_int ?z_isinstance ?z_bool ?z_list ?z_tuple ?z_range ?z_min ?z_max ?pure
    (case a0 => k_is)
    (case l0 => k_is)
    (case c0 => k_is)
    (case k0 => k_is)
    (case a1 => k_is)
    (case l1 => k_is)
    (case c1 => k_is)
    (case k1 => k_is)
    (case a2 => k_is)
    (case l2 => k_is)
    (case c2 => k_is)
    (case k2 => k_is)
    (case a3 => k_is)
    (case l3 => k_is)
    (case c3 => k_is)
    (case k3 => k_is)
    (case a4 => k_is)
    (case l4 => k_is)
    (case c4 => k_is)
    (case k4 => k_is)
    (case a5 => k_is)
    (case l5 => k_is)
    (case c5 => k_is)
    (case k5 => k_is)
    (case a6 => k_is)
    (case l6 => k_is)
    (case c6 => k_is)
    (case k6 => k_is)
    (case a7 => k_is)
    (case l7 => k_is)
    (case c7 => k_is)
    (case k7 => k_is)
    (case a8 => k_is)
    (case l8 => k_is)
    (case c8 => k_is)
    (case k8 => k_is)
    (case a9 => k_is)
    (case l9 => k_is)
    (case c9 => k_is)
    (case k9 => k_is)
    (case a10 => k_is)
    (case l10 => k_is)
    (case c10 => k_is)
    (case k10 => k_is)
    (case a11 => k_is)
    (case l11 => k_is)
    (case c11 => k_is)
    (case k11 => k_is)
    (case a12 => k_is)
    (case l12 => k_is)
    (case c12 => k_is)
    (case k12 => k_is)
    (case a13 => k_is)
    (case l13 => k_is)
    (case c13 => k_is)
    (case k13 => k_is)
    (case a14 => k_is)
    (case l14 => k_is)
    (case c14 => k_is)
    (case k14 => k_is)
    (case a15 => k_is)
    (case l15 => k_is)
    (case c15 => k_is)
    (case k15 => k_is)
    (case a16 => k_is)
    (case l16 => k_is)
    (case c16 => k_is)
    (case k16 => k_is)
    (case a17 => k_is)
    (case l17 => k_is)
    (case c17 => k_is)
    (case k17 => k_is)
    (case a18 => k_is)
    (case l18 => k_is)
    (case c18 => k_is)
    (case k18 => k_is)
    (case a19 => k_is)
    (case l19 => k_is)
    (case c19 => k_is)
    (case k19 => k_is)
    (case a20 => k_is)
    (case l20 => k_is)
    (case c20 => k_is)
    (case k20 => k_is)
    (case a21 => k_is)
    (case l21 => k_is)
    (case c21 => k_is)
    (case k21 => k_is)
    (case a22 => k_is)
    (case l22 => k_is)
    (case c22 => k_is)
    (case k22 => k_is)
    (case a23 => k_is)
    (case l23 => k_is)
    (case c23 => k_is)
    (case k23 => k_is)
    (case a24 => k_is)
    (case l24 => k_is)
    (case c24 => k_is)
    (case k24 => k_is)
    (case z_len => k_is)
    (case z_zip => k_is)
    (case z_dict => k_is)
    (case z_int => k_is)
    (case z_isinstance => k_is)
    (case z_bool => k_is)
    (case z_list => k_is)
    (case z_tuple => k_is)
    (case z_range => k_is)
    (case z_min => k_is)
    (case z_max => k_is)
    (case pure => exact L2.Lw.law_true)
